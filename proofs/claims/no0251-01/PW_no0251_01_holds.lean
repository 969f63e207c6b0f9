import PyProof.Rows.All
import Wide.All
import OpenK.AllK
import Wide.FinOn
import Lean
import PySem.Challenge.RW_no0251_01
section
open PySem PySem.W PySem.Calls PyProof.Rows
set_option Elab.async false
set_option maxRecDepth 100000
set_option linter.unusedVariables false
namespace Mine
/-- a str's entry in a dict -/
noncomputable
def ent (P : Params) (n : String) (t : Nat) (v : Value) : DictEntry := ⟨PyData.keyHash P (Str.ofString n), .str (Str.ofString n) t, v⟩
noncomputable
abbrev P0 : Program := PySem.Challenge.pw_no0251_01
/-- the __init__ of the class that is the text's statement i -/
noncomputable
def initAt (i : Nat) : Arguments × List Stmt × Scope := match P0.main.body[i]? with
  | some (.ClassDef _ _ _ (.FunctionDef _ a b _ _ _ sc _ _ _ :: _) _ _ _ _ _ _ _) => (a, b, sc)
  | _ => ({ posonlyargs := [], args := [], vararg := none, kwonlyargs := [], kw_defaults := [], kwarg := none, defaults := [] }, [], { kind := .function, names := [], isGenerator := false, isCoroutine := false, more := [] })
noncomputable
def K3 (P : Params) : Obj := { cls := Value.type "dict", data := Data.dict (List.toArray [
  ent P "__name__" 165 (Value.str (Str.ofString "law_no0251_01") 809),
  ent P "__doc__" 166 (Value.none),
  ent P "__package__" 167 (Value.none),
  ent P "__loader__" 168 (Value.builtin "__main__.__loader__#opaque"),
  ent P "__spec__" 169 (Value.none),
  ent P "__annotations__" 170 (Value.ref 6),
  ent P "__builtins__" 171 (Value.ref 4),
  ent P "__file__" 173 (Value.str (Str.ofString "/claim/cut.py") 172),
  ent P "__cached__" 174 (Value.none),
  ent P "F77Error" 217 (Value.ref 31),
  ent P "RunFault" 233 (Value.ref 44),
  ent P "INTEGER" 235 (Value.int 0 234),
  ent P "REAL" 237 (Value.int 1 236),
  ent P "DOUBLE" 239 (Value.int 2 238),
  ent P "COMPLEX" 241 (Value.int 3 240),
  ent P "LOGICAL" 243 (Value.int 4 242),
  ent P "CHARACTER" 245 (Value.int 5 244),
  ent P "value_by" 259 (Value.ref 53),
  ent P "Limits" 312 (Value.ref 71),
  ent P "fit_int" 323 (Value.ref 82),
  ent P "cut_quotient" 332 (Value.ref 89),
  ent P "order_of" 340 (Value.ref 96),
  ent P "NOUGHT" 345 (Value.ref 97),
  ent P "count_digits" 353 (Value.ref 104),
  ent P "strip_zeros" 361 (Value.ref 111),
  ent P "round_digits" 374 (Value.ref 118),
  ent P "round_real" 385 (Value.ref 125),
  ent P "exact_add" 394 (Value.ref 132),
  ent P "exact_mul" 402 (Value.ref 139),
  ent P "real_neg" 409 (Value.ref 146),
  ent P "real_sub" 421 (Value.ref 153),
  ent P "real_compare" 430 (Value.ref 160),
  ent P "real_of_int" 439 (Value.ref 167),
  ent P "real_to_int" 449 (Value.ref 174),
  ent P "digits_of" 457 (Value.ref 181),
  ent P "collate" 468 (Value.ref 188),
  ent P "real_as" 479 (Value.ref 195),
  ent P "convert" 489 (Value.ref 202),
  ent P "SIGNS" 493 (Value.int 256 492),
  ent P "half_up" 503 (Value.ref 209),
  ent P "as_int" 512 (Value.ref 216),
  ent P "as_real" 521 (Value.ref 223),
  ent P "as_double" 530 (Value.ref 230),
  ent P "as_complex" 539 (Value.ref 237),
  ent P "same_complex" 548 (Value.ref 244),
  ent P "cut_real" 557 (Value.ref 251),
  ent P "near_real" 566 (Value.ref 258),
  ent P "near_int" 575 (Value.ref 265),
  ent P "without_sign" 584 (Value.ref 272),
  ent P "rest_of" 598 (Value.ref 279),
  ent P "with_sign" 610 (Value.ref 286),
  ent P "compare_numbers" 619 (Value.ref 293),
  ent P "difference" 630 (Value.ref 300),
  ent P "double_product" 641 (Value.ref 307),
  ent P "extreme" 652 (Value.ref 314),
  ent P "greatest" 661 (Value.ref 321),
  ent P "least" 670 (Value.ref 328),
  ent P "greatest_as_real" 679 (Value.ref 335),
  ent P "least_as_real" 688 (Value.ref 342),
  ent P "greatest_as_int" 697 (Value.ref 349),
  ent P "least_as_int" 706 (Value.ref 356),
  ent P "second_part" 715 (Value.ref 363),
  ent P "conjugate" 724 (Value.ref 370),
  ent P "number_operations" 730 (Value.ref 377),
  ent P "code_of" 739 (Value.ref 384),
  ent P "sign_of_code" 748 (Value.ref 391),
  ent P "length_of" 757 (Value.ref 398),
  ent P "place_of_text" 766 (Value.ref 405),
  ent P "is_not_below" 775 (Value.ref 412),
  ent P "is_above" 784 (Value.ref 419),
  ent P "is_not_above" 793 (Value.ref 426),
  ent P "is_below" 802 (Value.ref 433),
  ent P "text_operations" 808 (Value.ref 440),
  ent P "_law_one" 816 (Value.ref 447),
  ent P "_law_rows" 822 (Value.ref 454),
  ent P "_law_told" 835 (Value.ref 461),
  ent P "_law_fixed" 842 (Value.ref 468),
  ent P "_law_cut" 850 (Value.ref 475),
  ent P "_law_int" 858 (Value.ref 482),
  ent P "_law_value" 864 (Value.ref 487),
  ent P "_law_whole" 873 (Value.ref 494),
  ent P "_law_padded" 879 (Value.ref 499),
  ent P "_law_text_due" 885 (Value.ref 504),
  ent P "_law_number_due" 898 (Value.ref 511),
  ent P "_law_extreme" 904 (Value.ref 516),
  ent P "_law_due" 910 (Value.ref 521),
  ent P "law" 916 (Value.ref 526)]) 87 }
noncomputable
def K97 (P : Params) : Obj := { cls := Value.type "tuple", data := Data.seq #[Value.int 0 343, Value.int 0 344] }
noncomputable
def K27 (P : Params) : Obj := { cls := Value.type "code", data := Data.fields #[Value.str (Str.ofString "__init__") 201, Value.str (Str.ofString "F77Error.__init__") 202, Value.str (Str.ofString "/claim/cut.py") 203, Value.int 4 0, Value.int 2 0, Value.int 0 0, Value.int 0 0, Value.int 3 0, Value.ref 22, Value.bool true, Value.int 181 0, Value.ref 23, Value.none, Value.ref 24, Value.ref 25, Value.ref 26, Value.int 206 0, Value.int 4 0, Value.str (Str.ofString "/claim/cut.py") 207] }
noncomputable
def K30 (P : Params) : Obj := { cls := Value.type "dict", data := Data.dict #[{ hash := PyData.keyHash P (Str.ofString "__module__"), key := Value.str (Str.ofString "__module__") 196, val := Value.str (Str.ofString "f77.errors") 187 }, { hash := PyData.keyHash P (Str.ofString "__firstlineno__"), key := Value.str (Str.ofString "__firstlineno__") 200, val := Value.int 2 199 }, { hash := PyData.keyHash P (Str.ofString "__init__"), key := Value.str (Str.ofString "__init__") 208, val := Value.ref 28 }, { hash := PyData.keyHash P (Str.ofString "__static_attributes__"), key := Value.str (Str.ofString "__static_attributes__") 210, val := Value.ref 29 }, { hash := PyData.keyHash P (Str.ofString "__weakref__"), key := Value.str (Str.ofString "__weakref__") 212, val := Value.ref 32 }, { hash := PyData.keyHash P (Str.ofString "__doc__"), key := Value.str (Str.ofString "__doc__") 213, val := Value.none }] 3 }
noncomputable
def K31 (P : Params) : Obj := { cls := Value.type "type", data := Data.cls { name := Str.ofString "F77Error", bases := [Value.type "Exception"], mro := [Value.ref 31, Value.type "Exception", Value.type "BaseException", Value.type "object"], ns := 30, qualname := Str.ofString "F77Error", subclasses := [Value.ref 44] }, slots := #[some (Value.ref 15), none, some (Value.str (Str.ofString "F77Error") 189), some (Value.str (Str.ofString "F77Error") 197), some (Value.builtin "Exception.__new__"), some (Value.bool true)] }
noncomputable
def K32 (P : Params) : Obj := { cls := Value.type "getset_descriptor", data := Data.fields #[Value.str (Str.ofString "__weakref__") 211, Value.ref 31, Value.builtin "ExceptionGroup.__weakref__", Value.none] }
noncomputable
def K43 (P : Params) : Obj := { cls := Value.type "dict", data := Data.dict #[{ hash := PyData.keyHash P (Str.ofString "__module__"), key := Value.str (Str.ofString "__module__") 225, val := Value.str (Str.ofString "f77.errors") 187 }, { hash := PyData.keyHash P (Str.ofString "__firstlineno__"), key := Value.str (Str.ofString "__firstlineno__") 229, val := Value.int 7 228 }, { hash := PyData.keyHash P (Str.ofString "__static_attributes__"), key := Value.str (Str.ofString "__static_attributes__") 230, val := Value.ref 42 }, { hash := PyData.keyHash P (Str.ofString "__doc__"), key := Value.str (Str.ofString "__doc__") 231, val := Value.none }] 2 }
noncomputable
def K44 (P : Params) : Obj := { cls := Value.type "type", data := Data.cls { name := Str.ofString "RunFault", bases := [Value.ref 31], mro := [Value.ref 44, Value.ref 31, Value.type "Exception", Value.type "BaseException", Value.type "object"], ns := 43, qualname := Str.ofString "RunFault" }, slots := #[some (Value.ref 35), none, some (Value.str (Str.ofString "RunFault") 218), some (Value.str (Str.ofString "RunFault") 226), some (Value.builtin "Exception.__new__"), some (Value.bool true)] }
noncomputable
def K67 (P : Params) : Obj := { cls := Value.type "code", data := Data.fields #[Value.str (Str.ofString "__init__") 282, Value.str (Str.ofString "Limits.__init__") 283, Value.str (Str.ofString "/claim/cut.py") 284, Value.int 26 0, Value.int 9 0, Value.int 0 0, Value.int 0 0, Value.int 3 0, Value.ref 62, Value.bool true, Value.int 181 0, Value.ref 63, Value.none, Value.ref 64, Value.ref 65, Value.ref 66, Value.int 294 0, Value.int 26 0, Value.str (Str.ofString "/claim/cut.py") 295] }
noncomputable
def K70 (P : Params) : Obj := { cls := Value.type "dict", data := Data.dict #[{ hash := PyData.keyHash P (Str.ofString "__module__"), key := Value.str (Str.ofString "__module__") 269, val := Value.str (Str.ofString "f77.limits") 260 }, { hash := PyData.keyHash P (Str.ofString "__firstlineno__"), key := Value.str (Str.ofString "__firstlineno__") 273, val := Value.int 24 272 }, { hash := PyData.keyHash P (Str.ofString "__init__"), key := Value.str (Str.ofString "__init__") 296, val := Value.ref 68 }, { hash := PyData.keyHash P (Str.ofString "__static_attributes__"), key := Value.str (Str.ofString "__static_attributes__") 305, val := Value.ref 69 }, { hash := PyData.keyHash P (Str.ofString "__dict__"), key := Value.str (Str.ofString "__dict__") 307, val := Value.ref 72 }, { hash := PyData.keyHash P (Str.ofString "__weakref__"), key := Value.str (Str.ofString "__weakref__") 309, val := Value.ref 73 }, { hash := PyData.keyHash P (Str.ofString "__doc__"), key := Value.str (Str.ofString "__doc__") 310, val := Value.none }] 4 }
noncomputable
def K71 (P : Params) : Obj := { cls := Value.type "type", data := Data.cls { name := Str.ofString "Limits", bases := [Value.type "object"], mro := [Value.ref 71, Value.type "object"], ns := 70, qualname := Str.ofString "Limits" }, slots := #[none, none, some (Value.str (Str.ofString "Limits") 262), some (Value.str (Str.ofString "Limits") 270), some (Value.builtin "object.__new__"), some (Value.bool true)] }
noncomputable
def K72 (P : Params) : Obj := { cls := Value.type "getset_descriptor", data := Data.fields #[Value.str (Str.ofString "__dict__") 306, Value.ref 71, Value.builtin "function.__dict__", Value.builtin "function.__dict__#set"] }
noncomputable
def K73 (P : Params) : Obj := { cls := Value.type "getset_descriptor", data := Data.fields #[Value.str (Str.ofString "__weakref__") 308, Value.ref 71, Value.builtin "ExceptionGroup.__weakref__", Value.none] }
noncomputable
def K61 (P : Params) : Obj := { cls := Value.type "tuple", data := Data.seq #[Value.int 32 274, Value.int 7 275, Value.int 15 276, Value.int 38 277, Value.int 1000000 278, Value.int 19 279, Value.int 72 280, Value.int 40 281] }
noncomputable
def K28 (P : Params) : Obj := { cls := Value.type "function", data := Data.func { name := Str.ofString "__init__", qualname := Str.ofString "F77Error.__init__", params := (initAt 1).1, body := FuncBody.stmts (initAt 1).2.1, scope := (initAt 1).2.2, globals := 3, closure := [], defaults := Value.none, kwdefaults := Value.none, pyModule := Value.str (Str.ofString "f77.errors") 187, code := Value.ref 27 } }
noncomputable
def K68 (P : Params) : Obj := { cls := Value.type "function", data := Data.func { name := Str.ofString "__init__", qualname := Str.ofString "Limits.__init__", params := (initAt 12).1, body := FuncBody.stmts (initAt 12).2.1, scope := (initAt 12).2.2, globals := 3, closure := [], defaults := Value.ref 61, kwdefaults := Value.none, pyModule := Value.str (Str.ofString "f77.limits") 260, code := Value.ref 67 } }
noncomputable
def Ks (P : Params) : Frag := [(3, K3 P), (27, K27 P), (28, K28 P), (30, K30 P), (31, K31 P), (32, K32 P), (43, K43 P), (44, K44 P), (61, K61 P), (67, K67 P), (68, K68 P), (70, K70 P), (71, K71 P), (72, K72 P), (73, K73 P), (97, K97 P)]
noncomputable
def KsAt : List Addr := [3, 27, 28, 30, 31, 32, 43, 44, 61, 67, 68, 70, 71, 72, 73, 97]
theorem autoSrc1 (h : True := by intros; rfl) : True := h
abbrev aiRfl : Lean.Syntax := autoSrc1._auto_1
theorem autoSrc2 (h : True := by with_unfolding_all rfl) : True := h
abbrev aiWu : Lean.Syntax := autoSrc2._auto_1
theorem autoSrc3 (h : True := by intros; with_unfolding_all rfl) : True := h
abbrev aiIwu : Lean.Syntax := autoSrc3._auto_1
theorem autoSrc4 (h : True := by decide +kernel) : True := h
abbrev aiDec : Lean.Syntax := autoSrc4._auto_1
theorem autoSrc5 (h : True := by decide) : True := h
abbrev aiDc : Lean.Syntax := autoSrc5._auto_1
theorem autoSrc6 (h : True := by rfl) : True := h
abbrev aiR : Lean.Syntax := autoSrc6._auto_1
end Mine
end
section
open PySem PySem.W PySem.Calls PyProof.Rows
set_option Elab.async false
set_option maxRecDepth 100000
set_option linter.unusedVariables false
namespace Mine

/-- plain data -/
inductive D where
  | none
  | bool (b : Bool)
  | int (i : Int)
  | str (x : Str)
  | tup (ds : List D)
  | lst (ds : List D)
  | val (v : Value)
  | lim (wd : Int)
  | tab (P : Heap → Addr → Prop)

/-- the data that need no base heap -/
noncomputable
def D.pure : D → Bool
  | .lim _ => false
  | .tab _ => false
  | _ => true

noncomputable
def LimAt (g : Heap) (a : Addr) (wd : Int) : Prop :=
  ∃ dx es n t1 t2 t3 t4, g.get? a = some (instObj 71 dx) ∧ g.get? dx = some (dictOf es n) ∧
    getL "width" es = some (some (.int wd t1)) ∧ getL "real_digits" es = some (some (.int 4 t2)) ∧
    getL "double_digits" es = some (some (.int 9 t3)) ∧ getL "top_exponent" es = some (some (.int 30 t4))

theorem some_none {α : Type _} {a : α} (h : some a = none) : False := by cases h
theorem none_some {α : Type _} {a : α} (h : none = some a) : False := by cases h
mutual
inductive Rd (g h : Heap) : Value → D → Prop
  | none : Rd g h .none .none
  | bool (b) : Rd g h (.bool b) (.bool b)
  | int (i t) : Rd g h (.int i t) (.int i)
  | str (x t) : Rd g h (.str x t) (.str x)
  | tup {a o vs n ds} : h.get? a = some o → o.cls = .type "tuple" → o.data = .seq vs n → RdAll g h vs.toList ds → Rd g h (.ref a) (.tup ds)
  | lst {a o vs n ds} : h.get? a = some o → o.cls = .type "list" → o.data = .seq vs n → RdAll g h vs.toList ds → Rd g h (.ref a) (.lst ds)
  | val (v) : Rd g h v (.val v)
  | lim {a wd} : LimAt g a wd → Rd g h (.ref a) (.lim wd)
  | tab {a P} : (∀ g g' a, (∀ b o, g.get? b = some o → g'.get? b = some o) → P g a → P g' a) → P g a → Rd g h (.ref a) (.tab P)
inductive RdAll (g h : Heap) : List Value → List D → Prop
  | nil : RdAll g h [] []
  | cons {v vs d ds} : Rd g h v d → RdAll g h vs ds → RdAll g h (v :: vs) (d :: ds)
end

noncomputable
def Kp (h h' : Heap) : Prop := ∀ b o, h.get? b = some o → h'.get? b = some o
theorem Kp.refl (h : Heap) : Kp h h := fun _ _ e => e
theorem Kp.trans {a b c : Heap} (x : Kp a b) (y : Kp b c) : Kp a c := fun _ _ e => y _ _ (x _ _ e)

/-- h to h', but for the object at L and the cells -/
noncomputable
def KpL (L : Addr) (h h' : Heap) : Prop := ∀ b o, b ≠ L → (∀ v, o.data ≠ .cell v) → h.get? b = some o → h'.get? b = some o
theorem KpL.refl (L : Addr) (h : Heap) : KpL L h h := fun _ _ _ _ e => e
theorem KpL.trans {L : Addr} {a b c : Heap} (x : KpL L a b) (y : KpL L b c) : KpL L a c := fun _ _ n q e => y _ _ n q (x _ _ n q e)
theorem KpL.of {L : Addr} {a b : Heap} (x : Kp a b) : KpL L a b := fun _ _ _ _ e => x _ _ e

theorem LimAt.keeps {g g' : Heap} (k : Kp g g') {a : Addr} {wd : Int} (x : LimAt g a wd) : LimAt g' a wd := by
  obtain ⟨dx, es, n, t1, t2, t3, t4, h1, h2, r⟩ := x
  exact ⟨dx, es, n, t1, t2, t3, t4, k _ _ h1, k _ _ h2, r⟩

section
variable {g g' h h' : Heap} (kg : Kp g g') (k : ∀ b o, h.get? b = some o → (∃ vs n, o.data = .seq vs n) → h'.get? b = some o)
include kg k
theorem Rd.mono {v : Value} {d : D} (r : Rd g h v d) : Rd g' h' v d :=
  Rd.rec (motive_1 := fun v d _ => Rd g' h' v d) (motive_2 := fun v d _ => RdAll g' h' v d) .none .bool .int .str
    (fun h1 h2 h3 _ i => .tup (k _ _ h1 ⟨_, _, h3⟩) h2 h3 i) (fun h1 h2 h3 _ i => .lst (k _ _ h1 ⟨_, _, h3⟩) h2 h3 i)
    .val (fun x => .lim (x.keeps kg)) (fun hp x => .tab hp (hp _ _ _ kg x)) .nil (fun _ _ a b => .cons a b) r
theorem RdAll.mono {vs : List Value} {ds : List D} (r : RdAll g h vs ds) : RdAll g' h' vs ds :=
  RdAll.rec (motive_1 := fun _ _ _ => True) (motive_2 := fun v d _ => RdAll g' h' v d) ⟨⟩ (fun _ => ⟨⟩) (fun _ _ => ⟨⟩) (fun _ _ => ⟨⟩)
    (fun _ _ _ _ _ => ⟨⟩) (fun _ _ _ _ _ => ⟨⟩) (fun _ => ⟨⟩) (fun _ => ⟨⟩) (fun _ _ => ⟨⟩) .nil (fun a _ _ b => .cons (Rd.mono kg k a) b) r
end
theorem Rd.keeps {g h h' : Heap} (k : Kp h h') {v : Value} {d : D} (x : Rd g h v d) : Rd g h' v d := x.mono (.refl g) fun b o e _ => k b o e
theorem RdAll.keeps {g h h' : Heap} (k : Kp h h') {vs : List Value} {ds : List D} (x : RdAll g h vs ds) : RdAll g h' vs ds := x.mono (.refl g) fun b o e _ => k b o e

theorem Kp.none {g h : Heap} (k : Kp g h) {b : Addr} (e : h.get? b = none) : g.get? b = none := by
  cases q : g.get? b with
  | none => rfl
  | some o => exact (some_none ((k _ _ q).symm.trans e)).elim
theorem neN {h : Heap} {b C : Addr} {o : Obj} (e : h.get? b = some o) (n : h.get? C = none) : b ≠ C := fun q => some_none (e.symm.trans (q ▸ n))
theorem neD {h : Heap} {b C : Addr} {o o' : Obj} {x y : Data} (e : h.get? b = some o) (n : h.get? C = some o') (hd : o'.data = x) (hq : o.data = y) (hn : x = y → False) : b ≠ C :=
  fun q => hn (hd.symm.trans ((congrArg Obj.data (Option.some.inj (n.symm.trans (q ▸ e)))).trans hq))
theorem neSeq {h : Heap} {b C : Addr} {o o' : Obj} {x : Data} (e : h.get? b = some o) (n : h.get? C = some o') (hd : o'.data = x) (hq : ∃ vs n, o.data = .seq vs n) (hn : ∀ vs n, x = .seq vs n → False) : b ≠ C :=
  let ⟨_, _, hq⟩ := hq; neD e n hd hq (hn _ _)
mutual
/-- plain through and through -/
noncomputable
def D.deep : D → Bool
  | .lim _ => false
  | .tab _ => false
  | .tup ds => D.deepAll ds
  | .lst ds => D.deepAll ds
  | _ => true
noncomputable
def D.deepAll : List D → Bool
  | [] => true
  | d :: ds => d.deep && D.deepAll ds
end
theorem Rd.any {g g' h : Heap} {v : Value} {d : D} (hd : d.deep = true) (r : Rd g h v d) : Rd g' h v d :=
  Rd.rec (motive_1 := fun v d _ => d.deep = true → Rd g' h v d) (motive_2 := fun v d _ => D.deepAll d = true → RdAll g' h v d)
    (fun _ => .none) (fun b _ => .bool b) (fun i t _ => .int i t) (fun x t _ => .str x t)
    (fun h1 h2 h3 _ i hd => .tup h1 h2 h3 (i hd)) (fun h1 h2 h3 _ i hd => .lst h1 h2 h3 (i hd))
    (fun v _ => .val v) (fun _ hd => (Bool.noConfusion hd)) (fun _ _ hd => (Bool.noConfusion hd)) (fun _ => .nil)
    (fun _ _ a b hd => .cons (a (Bool.and_eq_true_iff.mp hd).1) (b (Bool.and_eq_true_iff.mp hd).2)) r hd
theorem RdAll.rec' {g h : Heap} {m : List Value → List D → Prop} (h0 : m [] []) (h1 : ∀ {v d vs ds}, Rd g h v d → RdAll g h vs ds → m vs ds → m (v :: vs) (d :: ds))
    {vs : List Value} {ds : List D} (r : RdAll g h vs ds) : m vs ds :=
  RdAll.rec (motive_1 := fun _ _ _ => True) (motive_2 := fun v d _ => m v d) ⟨⟩ (fun _ => ⟨⟩) (fun _ _ => ⟨⟩) (fun _ _ => ⟨⟩)
    (fun _ _ _ _ _ => ⟨⟩) (fun _ _ _ _ _ => ⟨⟩) (fun _ => ⟨⟩) (fun _ => ⟨⟩) (fun _ _ => ⟨⟩) h0 (fun a b _ i => h1 a b i) r
theorem RdAll.any {g g' h : Heap} {vs : List Value} {ds : List D} (hd : D.deepAll ds = true) (r : RdAll g h vs ds) : RdAll g' h vs ds :=
  r.rec' (m := fun vs ds => D.deepAll ds = true → RdAll g' h vs ds) (fun _ => .nil) (fun a _ i hd => .cons (Rd.any (Bool.and_eq_true_iff.mp hd).1 a) (i (Bool.and_eq_true_iff.mp hd).2)) hd
theorem RdAll.cons_inv {g h : Heap} {vs : List Value} {d : D} {ds : List D} (r : RdAll g h vs (d :: ds)) : ∃ v vs', vs = v :: vs' ∧ Rd g h v d ∧ RdAll g h vs' ds :=
  r.rec' (m := fun vs ds' => List.rec True (fun d ds _ => ∃ v vs', vs = v :: vs' ∧ Rd g h v d ∧ RdAll g h vs' ds) ds') ⟨⟩ fun a b _ => ⟨_, _, rfl, a, b⟩
theorem RdAll.nil_inv {g h : Heap} {vs : List Value} (r : RdAll g h vs []) : vs = [] :=
  r.rec' (m := fun vs ds' => List.rec (vs = []) (fun _ _ _ => True) ds') rfl fun _ _ _ => ⟨⟩
theorem RdAll.length {g h : Heap} {vs : List Value} {ds : List D} (r : RdAll g h vs ds) : vs.length = ds.length :=
  r.rec' (m := fun vs ds => vs.length = ds.length) rfl fun _ _ i => congrArg (· + 1) i
theorem RdAll.get {g h : Heap} {vs : List Value} {ds : List D} {k : Nat} {d : D} (r : RdAll g h vs ds) : ds[k]? = some d → ∃ v, vs[k]? = some v ∧ Rd g h v d :=
  r.rec' (m := fun vs ds => ∀ k : Nat, ds[k]? = some d → ∃ v, vs[k]? = some v ∧ Rd g h v d) (fun k e => (none_some (show (none : Option D) = some d from e)).elim)
    (fun {v d' vs ds} a _ i k => Nat.casesOn (motive := fun k => (d' :: ds)[k]? = some d → ∃ w, (v :: vs)[k]? = some w ∧ Rd g h w d) k (fun e => ⟨_, rfl, Option.some.inj e ▸ a⟩) (fun k e => i k e)) k

/-- a def of the text's top stands in the heap -/
noncomputable
def FnAt (g : Heap) (n : Str) (a : Arguments) (b : List Stmt) (sc : Scope) : Prop :=
  ∃ f o pm cd doc, (∃ mg, g.Ns mainGlobals mg ∧ mg n = some (.ref f)) ∧ g.get? f = some o ∧ o.data = .func (docDef n a b sc pm cd doc) ∧ g.CodeRec cd n
theorem FnAt.keeps {g h : Heap} (k : Kp g h) {n : Str} {a : Arguments} {b : List Stmt} {sc : Scope} (x : FnAt g n a b sc) : FnAt h n a b sc := by
  obtain ⟨f, o, pm, cd, doc, ⟨mg, h1, h2⟩, h3, h4, h5⟩ := x
  exact ⟨f, o, pm, cd, doc, ⟨mg, h1.keeps k, h2⟩, k _ _ h3, h4, h5.keeps k⟩

structure Sta (w : World) (g : Heap) : Prop where
  inK : (Ks w.params).In g
  fn : ∀ (i : Nat) (n : Str) (a : Arguments) (b : List Stmt) (sc : Scope) (ps : Pos), P0.main.body[i]? = some (PySem.Stmt.FunctionDef n a b [] none [] sc none n ps) → FnAt g n a b sc
  glob : ∃ mg mb, g.Ns mainGlobals mg ∧ g.Ns builtinsNs mb ∧ ∀ x : Str, x ≠ "__name__" → mb x = bootBuiltins x
  nolimit : g.NoLimit
  nodigits : ∃ mc, g.Ns cStatics mc ∧ mc "sys.int_max_str_digits" = none
theorem Sta.keeps {w : World} {g h : Heap} (x : Sta w g) (k : Kp g h) : Sta w h :=
  ⟨x.inK.keeps k, fun i n a b sc ps e => (x.fn i n a b sc ps e).keeps k, let ⟨mg, mb, a, b, c⟩ := x.glob; ⟨mg, mb, a.keeps k, b.keeps k, c⟩, x.nolimit.keeps k, let ⟨mc, a, b⟩ := x.nodigits; ⟨mc, a.keeps k, b⟩⟩

noncomputable
def Same (s s' : Shared) : Prop := ∃ h tk, s' = { s with heap := h, toks := tk }
theorem Same.refl (s : Shared) : Same s s := ⟨s.heap, s.toks, rfl⟩
theorem Same.trans {a b c : Shared} (x : Same a b) (y : Same b c) : Same a c := by
  obtain ⟨h, t, rfl⟩ := x
  obtain ⟨h', t', rfl⟩ := y
  exact ⟨h', t', rfl⟩
theorem Same.mk' {s : Shared} {h : Heap} {t : Nat} : Same s { s with heap := h, toks := t } := ⟨h, t, rfl⟩

structure Ext (s s' : Shared) : Prop where
  keep : Kp s.heap s'.heap
  same : Same s s'
theorem Ext.refl (s : Shared) : Ext s s := ⟨.refl _, .refl _⟩
theorem Ext.trans {a b c : Shared} (x : Ext a b) (y : Ext b c) : Ext a c := ⟨x.keep.trans y.keep, x.same.trans y.same⟩
theorem Ext.tok {s : Shared} {t : Nat} : Ext s { s with toks := t } := ⟨.refl _, ⟨s.heap, t, rfl⟩⟩
theorem Ext.push {s : Shared} {o : Obj} : Ext s { s with heap := s.heap.push o } := ⟨fun _ _ e => Heap.get?_push_of_some _ e, ⟨_, _, rfl⟩⟩

/-- a frame at work: its world, its stack, the heap at its start, the call's ghost base -/
structure Cx where
  w : World
  A : Around
  env : Env
  g : Heap
  base : Heap
  outer : List Env
  n : Nat
  ns : List (Str × NameKind)
  /-- the frames that stand: for a comprehension those of the frame around it -/
  fr : List Env
  comp : Bool
noncomputable
abbrev Cx.M (c : Cx) : Model := model P0 c.w

structure Cx.Ok (c : Cx) : Prop where
  kind : c.env.scope.kind = .function
  names : c.env.scope.names = c.ns
  globals : c.env.globals = mainGlobals
  builtins : c.env.builtins = builtinsNs
  frame : c.comp = false → c.env.frame = some c.env.locals
  handled : c.A.handled = none
  depth : c.A.depth + c.n < recursionLimit
  units : c.A.units + 10 * c.n + 100 < cLine
  frames : c.A.frames = some c.fr
  frEq : c.comp = false → c.fr = c.env :: c.outer
  funs : c.comp = false → c.g.FunFrames c.base c.outer
  funsC : c.comp = true → c.g.FunFrames c.base c.fr
  stays : c.base.StaysIn c.g
  sta : Sta c.w c.g
  new : c.g.get? c.env.locals = none

structure Fm (c : Cx) (ρ : List (Str × D)) (h : Heap) : Prop where
  ns : ∃ m, h.Ns c.env.locals m ∧ ∀ x d, ρ.lookup x = some d → c.ns.lookup x ≠ some .cell → ∃ v, m x = some v ∧ Rd c.g h v d
  cl : ∀ x d, ρ.lookup x = some d → c.ns.lookup x = some .cell → ∃ a v, c.env.cells.lookup x = some a ∧ h.IsCell a (some v) ∧ Rd c.g h v d
  keep : Kp c.g h
  ce : c.comp = false → ∀ x, c.ns.lookup x = some .cell → ∃ a v, c.env.cells.lookup x = some a ∧ h.IsCell a v ∧ c.g.get? a = none
theorem Fm.ext {c : Cx} {ρ : List (Str × D)} {h h' : Heap} (x : Fm c ρ h) (k : Kp h h') : Fm c ρ h' :=
  ⟨let ⟨m, a, b⟩ := x.ns; ⟨m, a.keeps k, fun y d e hy => let ⟨v, p, q⟩ := b y d e hy; ⟨v, p, q.keeps k⟩⟩, fun y d e hy => let ⟨a, v, p, q, r⟩ := x.cl y d e hy; ⟨a, v, p, q.keeps k, r.keeps k⟩, x.keep.trans k, fun hc y hy => let ⟨a, v, p, q, r⟩ := x.ce hc y hy; ⟨a, v, p, q.keeps k, r⟩⟩

/-- the leaving of the frame by the fault e goes well -/
noncomputable
def Lv (c : Cx) (e : Value) (s' : Shared) : Prop :=
  ∃ a, e = .ref a ∧ (c.comp = false → ∀ (Q : Unit → Shared → Prop) (E : Value → Shared → Prop),
    (∀ h' t, Heap.FlyingW c.base c.outer a (.ref 44) (.ref t) h' → c.g.UpToSlots h' → Q () { s' with heap := h' }) →
    wpAny c.M c.A (leaving c.env e) Q E s')

/-- an expression's value, or the fault -/
structure Ev (c : Cx) (ρ : List (Str × D)) (e : Expr) (r : Option D) : Prop where
  go : c.Ok → ∀ (s : Shared) (Q E : Value → Shared → Prop), Fm c ρ s.heap →
    (∀ v s' d, r = some d → Ext s s' → Rd c.g s'.heap v d → Q v s') → (∀ e s', r = none → Same s s' → Lv c e s' → E e s') →
    wpAny c.M c.A (eval e c.env) Q E s
/-- a list of expressions -/
structure Evs (c : Cx) (ρ : List (Str × D)) (es : List Expr) (ds : List D) : Prop where
  go : c.Ok → ∀ (s : Shared) (pos : Pos) (Q : List Value → Shared → Prop) (E : Value → Shared → Prop), Fm c ρ s.heap →
    (∀ vs s', Ext s s' → RdAll c.g s'.heap vs ds → Q vs s') → wpAny c.M c.A (spliced (backTo pos (starEach es c.env))) Q E s
/-- a test -/
structure Tr (c : Cx) (ρ : List (Str × D)) (e : Expr) (b : Bool) : Prop where
  go : c.Ok → ∀ (s : Shared) (Q : Bool → Shared → Prop) (E : Value → Shared → Prop), Fm c ρ s.heap →
    (∀ s', Ext s s' → Q b s') → wpAny c.M c.A (isTrue e c.env (eval e c.env)) Q E s

inductive Out where
  | next (ρ : List (Str × D))
  | ret (d : D)
  | raise

noncomputable
def Xq (c : Cx) (s : Shared) (o : Out) (Q : Flow → Shared → Prop) (E : Value → Shared → Prop) : Prop :=
  (∀ ρ' s', o = .next ρ' → KpL c.env.locals s.heap s'.heap → Same s s' → Fm c ρ' s'.heap → Q .next s') ∧
  (∀ v s' d, o = .ret d → KpL c.env.locals s.heap s'.heap → Same s s' → Kp c.g s'.heap → Rd c.g s'.heap v d → Q (.ret v) s') ∧
  (∀ e s', o = .raise → Same s s' → Lv c e s' → E e s')
structure Ex (c : Cx) (ρ : List (Str × D)) (st : Stmt) (o : Out) : Prop where
  go : c.Ok → ∀ (s : Shared) (Q : Flow → Shared → Prop) (E : Value → Shared → Prop), Fm c ρ s.heap → Xq c s o Q E → wpAny c.M c.A (exec st c.env) Q E s
structure Exs (c : Cx) (ρ : List (Str × D)) (b : List Stmt) (o : Out) : Prop where
  go : c.Ok → ∀ (s : Shared) (Q : Flow → Shared → Prop) (E : Value → Shared → Prop), Fm c ρ s.heap → Xq c s o Q E → wpAny c.M c.A (execs b c.env) Q E s

/-- the contract of something called -/
structure CallOk (k : Nat) (f : Value) (ds : List D) (r : Option D) : Prop where
  keep : ∀ (w : World) (h : Heap), Sta w h → ∃ k, (k = Keeper.frame ∨ k = Keeper.machine ∨ k = Keeper.boundFrame) ∧ Looks (model P0 w) h (keeperOf f) k
  go : ∀ (w : World) (A : Around) (base : Heap) (outer : List Env) (s : Shared) (vs : List Value) (Q E : Value → Shared → Prop),
    A.handled = none → A.depth + k < recursionLimit → A.units + 10 * k + 100 < cLine → A.frames = some outer → s.heap.FunFrames base outer → base.StaysIn s.heap → Sta w s.heap →
    RdAll s.heap s.heap vs ds →
    (∀ v s' d, r = some d → Ext s s' → (∀ g, Rd g s'.heap v d) → Q v s') →
    (∀ e t s', r = none → Heap.FlyingW base outer e (.ref 44) (.ref t) s'.heap → s.heap.UpToSlots s'.heap → Same s s' → E (.ref e) s') →
    wpAny (model P0 w) A (call f vs) Q E s
section
variable {g h : Heap} {v : Value}
noncomputable
def Rd.Out (g h : Heap) (v : Value) : D → Prop
  | .none => v = .none
  | .bool b => v = .bool b
  | .int i => ∃ t, v = .int i t
  | .str x => ∃ t, v = .str x t
  | .tup ds => ∃ a o vs n, v = .ref a ∧ h.get? a = some o ∧ o.cls = .type "tuple" ∧ o.data = .seq vs n ∧ RdAll g h vs.toList ds
  | .lst ds => ∃ a o vs n, v = .ref a ∧ h.get? a = some o ∧ o.cls = .type "list" ∧ o.data = .seq vs n ∧ RdAll g h vs.toList ds
  | .val w => w = v
  | .lim wd => ∃ a, v = .ref a ∧ LimAt g a wd
  | .tab P => ∃ a, v = .ref a ∧ (∀ g g' a, (∀ b o, g.get? b = some o → g'.get? b = some o) → P g a → P g' a) ∧ P g a
theorem Rd.out {d : D} (r : Rd g h v d) : Rd.Out g h v d :=
  Rd.rec (motive_1 := fun v d _ => Rd.Out g h v d) (motive_2 := fun _ _ _ => True) rfl (fun _ => rfl) (fun _ t => ⟨t, rfl⟩) (fun _ t => ⟨t, rfl⟩)
    (fun h1 h2 h3 h4 _ => ⟨_, _, _, _, rfl, h1, h2, h3, h4⟩) (fun h1 h2 h3 h4 _ => ⟨_, _, _, _, rfl, h1, h2, h3, h4⟩) (fun _ => rfl)
    (fun x => ⟨_, rfl, x⟩) (fun p x => ⟨_, rfl, p, x⟩) ⟨⟩ (fun _ _ _ _ => ⟨⟩) r
theorem Rd.int_inv {i : Int} (r : Rd g h v (.int i)) : ∃ t, v = .int i t := r.out
theorem Rd.str_inv {x : Str} (r : Rd g h v (.str x)) : ∃ t, v = .str x t := r.out
theorem Rd.bool_inv {b : Bool} (r : Rd g h v (.bool b)) : v = .bool b := r.out
theorem Rd.none_inv (r : Rd g h v .none) : v = .none := r.out
theorem Rd.val_inv {w : Value} (r : Rd g h v (.val w)) : w = v := r.out
theorem Rd.lim_inv {i : Int} (r : Rd g h v (.lim i)) : ∃ a, v = .ref a ∧ LimAt g a i := r.out
theorem Rd.lst_inv {ds : List D} (r : Rd g h v (.lst ds)) : ∃ a o vs n, v = .ref a ∧ h.get? a = some o ∧ o.cls = .type "list" ∧ o.data = .seq vs n ∧ RdAll g h vs.toList ds := r.out
theorem Rd.tup_inv {ds : List D} (r : Rd g h v (.tup ds)) : ∃ a o vs n, v = .ref a ∧ h.get? a = some o ∧ o.cls = .type "tuple" ∧ o.data = .seq vs n ∧ RdAll g h vs.toList ds := r.out
end
theorem Ev.go1 {c : Cx} {ρ : List (Str × D)} {e : Expr} {d : D} (h : Ev c ρ e (some d)) (O : c.Ok) (s : Shared) (Q E : Value → Shared → Prop) (F : Fm c ρ s.heap) (hQ : ∀ v s', Ext s s' → Rd c.g s'.heap v d → Q v s') : wpAny c.M c.A (eval e c.env) Q E s :=
  h.go O s Q E F (fun v s' d' hd x r => hQ v s' x (Option.some.inj hd ▸ r)) (fun _ _ hr => (some_none hr).elim)
theorem le_n {c : Cx} {k m : Nat} (h : c.n = m) (hk : k ≤ m) : k ≤ c.n := h ▸ hk
end Mine
end
section
--INV
set_option hygiene false in
local macro_rules | `(tactic| cases $x:ident) => `(tactic| first
  | (have some_inj_eq := Option.some.inj $x; clear $x; subst some_inj_eq)
  | exact (some_none $x).elim | exact (none_some $x).elim
  | (obtain ⟨_, rfl⟩ := Rd.int_inv $x) | (obtain ⟨_, rfl⟩ := Rd.str_inv $x) | (obtain rfl := Rd.val_inv $x) | (obtain rfl := Rd.bool_inv $x) | (obtain rfl := Rd.none_inv $x)
  | (obtain ⟨⟩ := $x:ident))
set_option hygiene false in
local macro_rules | `(tactic| rcases $e:term with $p:rcasesPatMed) => `(tactic| (refine Classical.byContradiction fun hGoal0 => ?_; obtain $p:rcasesPatMed := $e:term <;> (refine hGoal0 ?_; clear hGoal0)))
--/INV
section
open PySem PySem.W PySem.Calls PyProof.Rows
set_option Elab.async false
set_option maxRecDepth 100000
set_option linter.unusedVariables false
namespace Mine

section
variable {c : Cx} {ρ : List (Str × D)}

theorem Fm.neL {h : Heap} {I : Addr} (F : Fm c ρ h) (n : h.get? I = Option.none) : c.env.locals ≠ I := by
  obtain ⟨_, ⟨_, _, _, hL, _⟩, _⟩ := F.ns
  exact neN hL n
theorem Cx.Ok.funs' (O : c.Ok) {h : Heap} (F : Fm c ρ h) : h.FunFrames c.base c.fr := by
  cases hc : c.comp with
  | true => exact (O.funsC hc).of_keeps fun b o e _ => ⟨o, F.keep b o e, rfl⟩
  | false =>
    rw [O.frEq hc]
    rcases F.ns with ⟨m, ⟨o, es, ep, ho, hd, _⟩, _⟩
    refine ⟨by rw [O.kind]; decide, ⟨c.env.locals, o, O.frame hc, ?_, ho, fun vs q => by rw [hd] at q; cases q⟩, ?_⟩
    · cases q : c.base.get? c.env.locals with
      | none => rfl
      | some o' => have := O.stays _ _ q; rw [O.new] at this; cases this
    · exact (O.funs hc).of_keeps fun b o e _ => ⟨o, F.keep b o e, rfl⟩

theorem Lv.of_flying (O : c.Ok) {h : Heap} (F : Fm c ρ h) {e t : Addr} {s' : Shared} (hf : Heap.FlyingW c.base c.fr e (.ref 44) (.ref t) s'.heap) (hu : h.UpToSlots s'.heap) : Lv c (.ref e) s' := by
  refine ⟨e, rfl, fun hc _ _ hQ => ?_⟩
  rw [O.frEq hc] at hf
  refine wpAny_leaves_onW (O.frEq hc ▸ O.frames) (O.frame hc) hf fun h' x1 x2 => ?_
  exact hQ h' t x1 (((Heap.UpToSlots.of_keeps F.keep).trans hu).trans x2)

theorem CallOk.here {k : Nat} {f : Value} {ds : List D} {r : Option D} (C : CallOk k f ds r) (O : c.Ok) (hk : k ≤ c.n) {s : Shared} {vs : List Value} (F : Fm c ρ s.heap) (R : RdAll c.g s.heap vs ds) {Q E : Value → Shared → Prop}
    (hQ : ∀ v s' d, r = some d → Ext s s' → (∀ g, Rd g s'.heap v d) → Q v s') (hE : ∀ e s', r = none → Same s s' → Lv c e s' → E e s') : wpAny c.M c.A (call f vs) Q E s := by
  refine C.go c.w c.A c.base c.fr s vs Q E O.handled (by have := O.depth; (first | lia | omega)) (by have := O.units; (first | lia | omega)) O.frames (O.funs' F) (fun b o e => F.keep b o (O.stays b o e)) (O.sta.keeps F.keep) (R.mono F.keep fun b o e _ => e) hQ ?_
  intro e t s' hr hf hu hs
  exact hE _ s' hr hs (Lv.of_flying O F hf hu)

theorem Evs.nil : Evs c ρ [] [] := ⟨fun _ s _ Q E _ h => wpAny_pure (h [] s (.refl _) .nil)⟩
theorem Evs.cons {e : Expr} {es : List Expr} {d : D} {ds : List D} (h1 : Ev c ρ e (some d)) (h2 : Evs c ρ es ds)
    (he : autoParam (∀ env, starEach (e :: es) env = (false, eval e env) :: starEach es env) aiRfl) : Evs c ρ (e :: es) (d :: ds) := by
  refine ⟨?_⟩
  intro O s pos Q E F h
  rw [he]
  show wpAny c.M c.A (spliced ((false, eval e c.env) :: backTo pos (starEach es c.env))) Q E s
  refine spliced_cons (h1.go O s _ _ F (fun v s₁ d' hd x r => ?_) (fun e s' hr => by cases hr))
  cases hd
  refine h2.go O s₁ pos _ E (F.ext x.keep) fun vs s₂ x₂ r₂ => ?_
  exact h _ _ (x.trans x₂) (.cons (r.keeps x₂.keep) r₂)

theorem keep_bi {id : String} (w : World) (h : Heap) (_ : Sta w h) : ∃ k, (k = Keeper.frame ∨ k = Keeper.machine ∨ k = Keeper.boundFrame) ∧ Looks (model P0 w) h (keeperOf (.builtin id)) k := ⟨.machine, .inr (.inl rfl), Looks.of_pure rfl⟩
theorem keep_ty {id : String} (w : World) (h : Heap) (_ : Sta w h) : ∃ k, (k = Keeper.frame ∨ k = Keeper.machine ∨ k = Keeper.boundFrame) ∧ Looks (model P0 w) h (keeperOf (.type id)) k := ⟨.machine, .inr (.inl rfl), Looks.of_pure rfl⟩

theorem evalArgs_list {M : Model} {A : Around} {E : Value → Shared → Prop} {s : Shared} {f : Value} {l : List (Bool × Sem Value)} (hl : l.any (·.1) = false) {Q : Args → Shared → Prop}
    (h : wpAny M A (spliced l) (fun vs s' => Q ⟨vs, []⟩ s') E s) : wpAny M A (evalArgs f true l []) Q E s := by
  cases l with
  | nil =>
    unfold evalArgs
    show wpAny M A (spliced [] >>= _) Q E s
    refine wpAny_bind (wpAny_mono h (fun vs s' h' => ?_) fun _ _ x => x)
    refine wpAny_bind (wpAny_pure ?_)
    refine wpAny_holding ?_
    exact wpAny_bind (wpAny_pure (wpAny_bind (wpAny_pure (wpAny_pure h'))))
  | cons p r =>
    obtain ⟨b, x⟩ := p
    cases b with
    | true => simp at hl
    | false => exact evalArgs_plain h

theorem callWith_any {w : World} {A : Around} {E Q : Value → Shared → Prop} {s : Shared} {pos : Pos} {f : Value} {l : List (Bool × Sem Value)} (hl : l.any (·.1) = false)
    (hk : ∀ (w : World) (h : Heap), Sta w h → ∃ k, (k = Keeper.frame ∨ k = Keeper.machine ∨ k = Keeper.boundFrame) ∧ Looks (model P0 w) h (keeperOf f) k)
    (h : wpAny (model P0 w) A (spliced l) (fun vs s' => Sta w s'.heap ∧ wpAny (model P0 w) A (call f vs) Q E s') E s) : wpAny (model P0 w) A (callWith pos f [] l []) Q E s :=
  callWith_of (P := Sta w) (by rw [hl]; rfl) (hk w) (evalArgs_list hl h)

/-- a call by a written callee: the callee's value f, the arguments, f's contract -/
theorem Ev.call {func : Expr} {args : List Expr} {pos : Pos} {k : Nat} {f : Value} {ds : List D} {r : Option D} (hf : Ev c ρ func (some (.val f))) (ha : Evs c ρ args ds) (hc : CallOk k f ds r) (hk : k ≤ c.n)
    (harm : autoParam (∀ env, eval (.Call func args [] pos) env = (do callWith pos (← eval func env) [] (backTo pos (starEach args env)) (backToKw pos (keywordEach [] env)))) aiRfl)
    (hplain : autoParam (∀ env, (backTo pos (starEach args env)).any (·.1) = false) aiRfl) : Ev c ρ (.Call func args [] pos) r := by
  refine ⟨?_⟩
  intro O s Q E F hQ hE
  rw [harm]
  refine wpAny_bind (hf.go1 O s _ _ F (fun v s₁ x rd => ?_))
  cases rd
  refine callWith_any (hplain _) hc.keep ?_
  refine ha.go O s₁ pos _ E (F.ext x.keep) fun vs s₂ x₂ rs => ⟨O.sta.keeps ((F.ext x.keep).ext x₂.keep).keep, ?_⟩
  have F₂ := (F.ext x.keep).ext x₂.keep
  refine hc.here O hk F₂ rs (fun v s' d hr x₃ rd => hQ v s' d hr ((x.trans x₂).trans x₃) (rd _)) fun e s' hr hs hl => hE e s' hr ((x.same.trans x₂.same).trans hs) hl

theorem Ev.int {i : Int} {k : Nat} {pos : Pos} : Ev c ρ (.Constant (.int i) k pos) (some (.int i)) := ⟨fun _ s Q E _ h _ => wpAny_Constant_int (h _ _ _ rfl .tok (.int _ _))⟩
theorem Ev.str {x : Str} {k : Nat} {pos : Pos} : Ev c ρ (.Constant (.str x) k pos) (some (.str x)) := ⟨fun _ s Q E _ h _ => Constant_str (h _ _ _ rfl .tok (.str _ _))⟩
theorem Ev.bool {b : Bool} {k : Nat} {pos : Pos} : Ev c ρ (.Constant (.bool b) k pos) (some (.bool b)) := ⟨fun _ s Q E _ h _ => Constant_bool (h _ _ _ rfl (.refl _) (.bool _))⟩
theorem Ev.none {k : Nat} {pos : Pos} : Ev c ρ (.Constant .none k pos) (some .none) := ⟨fun _ s Q E _ h _ => Constant_none (h _ _ _ rfl (.refl _) .none)⟩

theorem Ev.loc {x : Str} {d : D} {pos : Pos} {ns : List (Str × NameKind)} (hs : c.ns = ns) (hk : ns.lookup x = some .local) (hd : ρ.lookup x = some d) (hb : autoParam ((x == ("__debug__" : Str)) = false) aiDec) : Ev c ρ (.Name x pos) (some d) := by
  refine ⟨?_⟩
  intro O s Q E F hQ _
  rcases F.ns with ⟨m, hm, hr⟩
  rcases hr x d hd (by rw [hs, hk]; decide) with ⟨v, hv, rd⟩
  refine wpAny_Name (wpAny_loadName_local O.kind ?_ hm hv (hQ _ _ _ rfl (.refl _) rd)) hb
  show c.env.scope.names.lookup x = _
  rw [O.names, hs, hk]

theorem Ev.cel {x : Str} {d : D} {pos : Pos} {ns : List (Str × NameKind)} (hs : c.ns = ns) (hk : ns.lookup x = some .cell) (hd : ρ.lookup x = some d) (hb : autoParam ((x == ("__debug__" : Str)) = false) aiDec) : Ev c ρ (.Name x pos) (some d) := by
  refine ⟨?_⟩
  intro O s Q E F hQ _
  rcases F.cl x d hd (by rw [hs, hk]) with ⟨a, v, hc, hi, rd⟩
  refine wpAny_Name (wpAny_loadName_cell O.kind ?_ hc hi (hQ _ _ _ rfl (.refl _) rd)) hb
  show c.env.scope.names.lookup x = _
  rw [O.names, hs, hk]

theorem Cx.Ok.kindOf {ns : List (Str × NameKind)} {x : Str} {k : Option NameKind} (O : c.Ok) (hs : c.ns = ns) (hk : ns.lookup x = k) : c.env.kindOf x = k := by
  show c.env.scope.names.lookup x = _
  rw [O.names, hs, hk]

theorem g_debug (P : Params) : nsIn (Ks P) mainGlobals ("__debug__" : Str) = some Option.none := by kernel_rfl
theorem Ev.glob {x : Str} {v : Value} {d : D} {pos : Pos} {ns : List (Str × NameKind)} (hs : c.ns = ns) (hk : ns.lookup x = some .globalImplicit) (hv : ∀ P, nsIn (Ks P) mainGlobals x = some (some v))
    (hd : ∀ (P : Params) (h : Heap), (Ks P).In h → Rd h h v d) (hdp : d.deep = true) : Ev c ρ (.Name x pos) (some d) := by
  have hb : (x == ("__debug__" : Str)) = false := by
    cases q : (x == ("__debug__" : Str)) with
    | false => rfl
    | true => exact (none_some (Option.some.inj ((g_debug c.w.params).symm.trans (eq_of_beq q ▸ hv c.w.params)))).elim
  refine ⟨?_⟩
  intro O s Q E F hQ _
  rcases (O.sta.keeps F.keep).glob with ⟨mg, mb, hg, hb', _⟩
  have X := (O.sta.keeps F.keep).inK
  refine Name_function_global O.kind (O.kindOf hs hk) (loadGlobal_global (by rw [O.globals]; exact hg) (mg_of X hg (hv _)) (hQ _ _ _ rfl (.refl _) ((hd _ _ X).any hdp))) hb
theorem Ev.fn {x : Str} {v : Value} {pos : Pos} {ns : List (Str × NameKind)} (hs : c.ns = ns) (hk : ns.lookup x = some .globalImplicit) (hv : ∀ P, nsIn (Ks P) mainGlobals x = some (some v)) :
    Ev c ρ (.Name x pos) (some (.val v)) := Ev.glob hs hk hv (fun _ _ _ => .val v) rfl
theorem Ev.boot {x : Str} {v : Value} {pos : Pos} {ns : List (Str × NameKind)} (hs : c.ns = ns) (hk : ns.lookup x = some .globalImplicit) (hn : ∀ P, nsIn (Ks P) mainGlobals x = some Option.none) (hv : bootBuiltins x = some v)
    (hm : x ≠ "__name__") (hb : autoParam ((x == ("__debug__" : Str)) = false) aiDec) : Ev c ρ (.Name x pos) (some (.val v)) := by
  refine ⟨?_⟩
  intro O s Q E F hQ _
  rcases (O.sta.keeps F.keep).glob with ⟨mg, mb, hg, hb', hbb⟩
  have X := (O.sta.keeps F.keep).inK
  refine Name_function_global O.kind (O.kindOf hs hk) (loadGlobal_builtin (by rw [O.globals]; exact hg) (mg_none_of X hg (hn _)) (by rw [O.builtins]; exact hb') ((hbb x hm).trans hv) (hQ _ _ _ rfl (.refl _) (.val _))) hb

/-- an operation on two data -/
structure BinOk (w : World) (A : Around) (op : Operator) (a b d : D) : Prop where
  go : ∀ (g : Heap) (s : Shared) (va vb : Value) (Q E : Value → Shared → Prop), Sta w s.heap → Rd g s.heap va a → Rd g s.heap vb b → (∀ v s', Ext s s' → Rd g s'.heap v d → Q v s') → wpAny (model P0 w) A (binaryOp op va vb) Q E s
theorem Ev.bin {l r : Expr} {op : Operator} {pos : Pos} {a b d : D} (h1 : Ev c ρ l (some a)) (h2 : Ev c ρ r (some b)) (h : BinOk c.w c.A op a b d) : Ev c ρ (.BinOp l op r pos) (some d) := by
  refine ⟨?_⟩
  intro O s Q E F hQ _
  refine wpAny_BinOp (h1.go1 O s _ _ F (fun v s₁ x rd => ?_))
  refine h2.go1 O s₁ _ _ (F.ext x.keep) (fun v₂ s₂ x₂ rd₂ => ?_)
  have F₂ := (F.ext x.keep).ext x₂.keep
  exact h.go c.g s₂ v v₂ Q E (O.sta.keeps F₂.keep) (rd.keeps x₂.keep) rd₂ fun v s' x₃ rd => hQ _ _ _ rfl ((x.trans x₂).trans x₃) rd

/-- a comparison of two data -/
structure CmpOk (w : World) (A : Around) (op : CmpOp) (a b : D) (t : Bool) : Prop where
  go : ∀ (g : Heap) (s : Shared) (va vb : Value) (Q E : Value → Shared → Prop), Sta w s.heap → Rd g s.heap va a → Rd g s.heap vb b → (∀ s', Ext s s' → Q (.bool t) s') → wpAny (model P0 w) A (compareOp op va vb) Q E s
theorem Ev.cmp {l r : Expr} {op : CmpOp} {pos : Pos} {a b : D} {t : Bool} (h1 : Ev c ρ l (some a)) (h2 : Ev c ρ r (some b)) (h : CmpOk c.w c.A op a b t) (hm : autoParam (behindInMarks op r = false) aiWu) :
    Ev c ρ (.Compare l [op] [r] pos) (some (.bool t)) := by
  refine ⟨?_⟩
  intro O s Q E F hQ _
  refine wpAny_Compare1 (h1.go1 O s _ _ F (fun v s₁ x rd => ?_)) hm
  refine h2.go1 O s₁ _ _ (F.ext x.keep) (fun v₂ s₂ x₂ rd₂ => ?_)
  have F₂ := (F.ext x.keep).ext x₂.keep
  exact h.go c.g s₂ v v₂ Q E (O.sta.keeps F₂.keep) (rd.keeps x₂.keep) rd₂ fun s' x₃ => hQ _ _ _ rfl ((x.trans x₂).trans x₃) (.bool _)
theorem Tr.cmp {l r : Expr} {op : CmpOp} {pos : Pos} {a b : D} {t : Bool} (h1 : Ev c ρ l (some a)) (h2 : Ev c ρ r (some b)) (h : CmpOk c.w c.A op a b t) (hm : autoParam (behindInMarks op r = false) aiWu) :
    Tr c ρ (.Compare l [op] [r] pos) t := by
  refine ⟨?_⟩
  intro O s Q E F hQ
  refine wpAny_isTrue_Compare1 (h1.go1 O s _ _ F (fun v s₁ x rd => ?_)) hm
  refine h2.go1 O s₁ _ _ (F.ext x.keep) (fun v₂ s₂ x₂ rd₂ => ?_)
  have F₂ := (F.ext x.keep).ext x₂.keep
  exact h.go c.g s₂ v v₂ _ E (O.sta.keeps F₂.keep) (rd.keeps x₂.keep) rd₂ fun s' x₃ => wpAny_truthy_bool (hQ _ ((x.trans x₂).trans x₃))
/-- a <= b < c and the like -/
theorem Tr.cmp2 {l r r2 : Expr} {op op2 : CmpOp} {pos : Pos} {a b e : D} {t t2 : Bool} (h1 : Ev c ρ l (some a)) (h2 : Ev c ρ r (some b)) (h3 : Ev c ρ r2 (some e)) (h : CmpOk c.w c.A op a b t) (h' : CmpOk c.w c.A op2 b e t2)
    (hm : autoParam (lastMarks [op, op2] [r, r2] = false) aiWu) : Tr c ρ (.Compare l [op, op2] [r, r2] pos) (t && t2) := by
  refine ⟨?_⟩
  intro O s Q E F hQ
  refine isTrue_chain (h1.go1 O s _ _ F (fun v s₁ x rd => ?_)) hm
  refine test_link (h2.go1 O s₁ _ _ (F.ext x.keep) (fun v₂ s₂ x₂ rd₂ => ?_))
  have F₂ := (F.ext x.keep).ext x₂.keep
  refine h.go c.g s₂ v v₂ _ E (O.sta.keeps F₂.keep) (rd.keeps x₂.keep) rd₂ fun s₃ x₃ => wpAny_truthy_bool ?_
  cases t with
  | false => exact hQ _ ((x.trans x₂).trans x₃)
  | true =>
    refine test_last (h3.go1 O s₃ _ _ (F₂.ext x₃.keep) (fun v₃ s₄ x₄ rd₃ => ?_))
    have F₄ := (F₂.ext x₃.keep).ext x₄.keep
    exact h'.go c.g s₄ v₂ v₃ _ E (O.sta.keeps F₄.keep) ((rd₂.keeps x₃.keep).keeps x₄.keep) rd₃ fun s' x₅ => wpAny_truthy_bool (hQ _ (((x.trans x₂).trans x₃).trans (x₄.trans x₅)))

theorem Tr.not {e : Expr} {pos : Pos} {b : Bool} (h : Tr c ρ e b) : Tr c ρ (.UnaryOp .Not e pos) (!b) := ⟨fun O s Q E F hQ => isTrue_not (h.go O s _ E F fun s' x => hQ s' x)⟩
theorem Tr.andNil {pos : Pos} : Tr c ρ (.BoolOp .And [] pos) true := ⟨fun _ s _ _ _ hQ => isTrue_and_nil (hQ s (.refl _))⟩
theorem Tr.orNil {pos : Pos} : Tr c ρ (.BoolOp .Or [] pos) false := ⟨fun _ s _ _ _ hQ => isTrue_or_nil (hQ s (.refl _))⟩
theorem isTrue_boolOp_whole {op : PySem.BoolOp} {l : List Expr} {pos : Pos} {env : Env} {w1 w2 : Sem Value} : isTrue (.BoolOp op l pos) env w1 = isTrue (.BoolOp op l pos) env w2 := rfl
theorem Tr.and {e : Expr} {es : List Expr} {pos : Pos} {a b : Bool} (h1 : Tr c ρ e a) (h2 : a = true → Tr c ρ (.BoolOp .And es pos) b) : Tr c ρ (.BoolOp .And (e :: es) pos) (a && b) := by
  refine ⟨?_⟩
  intro O s Q E F hQ
  refine isTrue_and (h1.go O s _ E F fun s₁ x => ?_)
  cases a with
  | false => exact hQ _ x
  | true => exact (h2 rfl).go O s₁ Q E (F.ext x.keep) fun s₂ x₂ => hQ _ (x.trans x₂)
theorem Tr.or {e : Expr} {es : List Expr} {pos : Pos} {a b : Bool} (h1 : Tr c ρ e a) (h2 : a = false → Tr c ρ (.BoolOp .Or es pos) b) : Tr c ρ (.BoolOp .Or (e :: es) pos) (a || b) := by
  refine ⟨?_⟩
  intro O s Q E F hQ
  refine isTrue_or (h1.go O s _ E F fun s₁ x => ?_)
  cases a with
  | true => exact hQ _ x
  | false => exact (h2 rfl).go O s₁ Q E (F.ext x.keep) fun s₂ x₂ => hQ _ (x.trans x₂)
theorem Tr.plain {e : Expr} {b : Bool} (h : Ev c ρ e (some (.bool b))) (he : autoParam (∀ env whole, isTrue e env whole = (do let v ← whole; standAt e.pos; holding [v] (truthy v))) aiRfl) : Tr c ρ e b := by
  refine ⟨?_⟩
  intro O s Q E F hQ
  refine isTrue_plain (h.go1 O s _ _ F (fun v s₁ x rd => ?_)) (he _ _)
  cases rd
  exact wpAny_truthy_bool (hQ _ x)

theorem Ev.if_ {t b o : Expr} {pos : Pos} {p : Bool} {r : Option D} (ht : Tr c ρ t p) (h1 : p = true → Ev c ρ b r) (h2 : p = false → Ev c ρ o r) : Ev c ρ (.IfExp t b o pos) r := by
  refine ⟨?_⟩
  intro O s Q E F hQ hE
  refine IfExp_ (ht.go O s _ E F fun s₁ x => ?_)
  have k1 : ∀ v s' d, r = some d → Ext s₁ s' → Rd c.g s'.heap v d → Q v s' := fun v s' d hr x' => hQ v s' d hr (x.trans x')
  have k2 : ∀ e s', r = Option.none → Same s₁ s' → Lv c e s' → E e s' := fun e s' hr x' => hE e s' hr (x.same.trans x')
  cases p with
  | true => exact (h1 rfl).go O s₁ Q E (F.ext x.keep) k1 k2
  | false => exact (h2 rfl).go O s₁ Q E (F.ext x.keep) k1 k2
theorem Ev.ite {t b o : Expr} {pos : Pos} {p : Bool} {d1 d2 : D} (ht : Tr c ρ t p) (h1 : p = true → Ev c ρ b (some d1)) (h2 : p = false → Ev c ρ o (some d2)) : Ev c ρ (.IfExp t b o pos) (some (if p then d1 else d2)) :=
  Ev.if_ ht (fun h => by subst h; exact h1 rfl) (fun h => by subst h; exact h2 rfl)
theorem Ev.cast {e : Expr} {d d' : D} (h : Ev c ρ e (some d)) (he : d = d') : Ev c ρ e (some d') := he ▸ h

theorem Ev.neg {e : Expr} {pos : Pos} {i : Int} (h : Ev c ρ e (some (.int i))) : Ev c ρ (.UnaryOp .USub e pos) (some (.int (-i))) := by
  refine ⟨?_⟩
  intro O s Q E F hQ _
  refine UnaryOp_ (h.go1 O s _ _ F (fun v s₁ x rd => ?_))
  cases rd
  exact PyProof.Rows.neg_int (hQ _ _ _ rfl (x.trans .tok) (.int _ _))
theorem Ev.not {e : Expr} {pos : Pos} {b : Bool} (h : Ev c ρ e (some (.bool b))) : Ev c ρ (.UnaryOp .Not e pos) (some (.bool (!b))) := by
  refine ⟨?_⟩
  intro O s Q E F hQ _
  refine UnaryOp_ (h.go1 O s _ _ F (fun v s₁ x rd => ?_))
  cases rd
  exact not_of (wpAny_truthy_bool (hQ _ _ _ rfl x (.bool _)))

theorem Ev.tup {es : List Expr} {k : Nat} {pos : Pos} {ds : List D} (h : Evs c ρ es ds) (hz : ds.length ≤ sizeLine) : Ev c ρ (.Tuple es k pos) (some (.tup ds)) := by
  refine ⟨?_⟩
  intro O s Q E F hQ _
  refine Tuple_ (h.go O s pos _ E F fun vs s₁ x rs => ?_)
  refine wpAny_newObj_type (hQ _ _ _ rfl (x.trans .push) (.tup (vs := vs.toArray) (Heap.get?_push_size _ rfl) rfl rfl ?_)) (by show vs.toArray.size ≤ sizeLine; rw [List.size_toArray, rs.length]; exact hz)
  exact rs.keeps fun _ _ e => Heap.get?_push_of_some _ e
theorem Ev.lst {es : List Expr} {pos : Pos} {ds : List D} (h : Evs c ρ es ds) (hz : ds.length ≤ sizeLine) : Ev c ρ (.List es pos) (some (.lst ds)) := by
  refine ⟨?_⟩
  intro O s Q E F hQ _
  refine List_ (h.go O s pos _ E F fun vs s₁ x rs => ?_)
  refine wpAny_newObj_type (hQ _ _ _ rfl (x.trans .push) (.lst (vs := vs.toArray) (Heap.get?_push_size _ rfl) rfl rfl ?_)) (by show vs.toArray.size ≤ sizeLine; rw [List.size_toArray, rs.length]; exact hz)
  exact rs.keeps fun _ _ e => Heap.get?_push_of_some _ e
end
end Mine
end
section
open PySem PySem.W PySem.Calls PyProof.Rows
set_option Elab.async false
set_option maxRecDepth 100000
set_option linter.unusedVariables false
namespace Mine

section
variable {c : Cx} {ρ : List (Str × D)}

theorem Fm.store (O : c.Ok) {h h' : Heap} (F : Fm c ρ h) {x : Str} {v : Value} {d : D} {m : Str → Option Value} (hm : h.Ns c.env.locals m) (hr : ∀ x d, ρ.lookup x = some d → c.ns.lookup x ≠ some .cell → ∃ v, m x = some v ∧ Rd c.g h v d)
    (rd : Rd c.g h v d) (hx : c.ns.lookup x = some .local) (hn : h'.Ns c.env.locals (fun y => if y = x then some v else m y)) (hs : Heap.SameBut c.env.locals h h') : Fm c ((x, d) :: ρ) h' ∧ KpL c.env.locals h h' := by
  have kl : ∀ b o, b ≠ c.env.locals → h.get? b = some o → h'.get? b = some o := fun b o hb e => (hs.2 b hb).trans e
  rcases hm with ⟨oL, es, ep, hL, hd, _⟩
  have kd : ∀ b o, h.get? b = some o → (∃ vs n, o.data = .seq vs n) → h'.get? b = some o := fun b o e hnd => kl b o (fun q => by subst q; rw [hL] at e; cases e; obtain ⟨vs, n, hq⟩ := hnd; rw [hd] at hq; cases hq) e
  refine ⟨⟨⟨_, hn, fun y d' hy hyc => ?_⟩, fun y d' hy hyc => ?_, fun b o e => kl b o (fun q => ?_) (F.keep b o e), fun hc y hy => ?_⟩, fun b o hb _ e => kl b o hb e⟩
  · rw [List.lookup_cons] at hy
    by_cases hxy : y = x
    · subst hxy
      rw [beq_self_eq_true] at hy
      cases hy
      exact ⟨v, by simp, rd.mono (.refl _) kd⟩
    · rw [beq_eq_false_iff_ne.mpr hxy] at hy
      rcases hr y d' hy hyc with ⟨v', h1, h2⟩
      exact ⟨v', by simp [hxy, h1], h2.mono (.refl _) kd⟩
  · rw [List.lookup_cons] at hy
    by_cases hxy : y = x
    · subst hxy
      rw [hx] at hyc; cases hyc
    · rw [beq_eq_false_iff_ne.mpr hxy] at hy
      rcases F.cl y d' hy hyc with ⟨a, v', h1, h2, h3⟩
      rcases h2 with ⟨oc, hoc, hcd⟩
      exact ⟨a, v', h1, ⟨oc, kl a oc (neD hoc hL hd hcd (fun z => nomatch z)) hoc, hcd⟩, h3.mono (.refl _) kd⟩
  · subst q
    have := O.new
    rw [e] at this
    cases this
  · rcases F.ce hc y hy with ⟨a, v', h1, ⟨oc, hoc, hcd⟩, h3⟩
    exact ⟨a, v', h1, ⟨oc, kl a oc (neD hoc hL hd hcd (fun z => nomatch z)) hoc, hcd⟩, h3⟩

/-- a name is bound -/
theorem bindName_ok (O : c.Ok) {s : Shared} (F : Fm c ρ s.heap) {x : Str} {v : Value} {d : D} (rd : Rd c.g s.heap v d) (hk : c.ns.lookup x = some .local) {Q : Unit → Shared → Prop} {E : Value → Shared → Prop}
    (hQ : ∀ s', KpL c.env.locals s.heap s'.heap → Same s s' → Fm c ((x, d) :: ρ) s'.heap → Q () s') : wpAny c.M c.A (storeName c.env x v) Q E s := by
  rcases F.ns with ⟨m, hm, hr⟩
  refine wpAny_storeName_local (O.kindOf rfl hk) hm (fun h' hn hs => ?_) (by rw [O.kind]; rfl)
  obtain ⟨F', k⟩ := F.store O hm hr rd hk hn hs
  exact hQ _ k ⟨_, _, rfl⟩ F'

theorem Xq.mono {s s₁ : Shared} {o : Out} {Q : Flow → Shared → Prop} {E : Value → Shared → Prop} (h : Xq c s o Q E) (k : KpL c.env.locals s.heap s₁.heap) (hs : Same s s₁) : Xq c s₁ o Q E :=
  ⟨fun ρ' s' ho k' hs' F => h.1 ρ' s' ho (k.trans k') (hs.trans hs') F, fun v s' d ho k' hs' kg rd => h.2.1 v s' d ho (k.trans k') (hs.trans hs') kg rd, fun e s' ho hs' hl => h.2.2 e s' ho (hs.trans hs') hl⟩

theorem Exs.nil : Exs c ρ [] (.next ρ) := ⟨fun _ s Q E F h => wpAny_execs_nil (h.1 ρ s rfl (.refl _ _) (.refl _) F)⟩
theorem Exs.cons {st : Stmt} {rest : List Stmt} {ρ' : List (Str × D)} {o : Out} (h1 : Ex c ρ st (.next ρ')) (h2 : Exs c ρ' rest o) : Exs c ρ (st :: rest) o := by
  refine ⟨?_⟩
  intro O s Q E F h
  refine wpAny_execs_cons (h1.go O s _ E F ⟨fun ρ'' s' ho k hs F' => ?_, fun _ _ _ ho => (nomatch ho), fun _ _ ho => (nomatch ho)⟩)
  cases ho
  exact h2.go O s' Q E F' (h.mono k hs)
theorem Exs.last {st : Stmt} {rest : List Stmt} {o : Out} (h1 : Ex c ρ st o) (ho : ∀ ρ', o ≠ .next ρ') : Exs c ρ (st :: rest) o := by
  refine ⟨?_⟩
  intro O s Q E F h
  exact wpAny_execs_cons (h1.go O s _ E F ⟨fun ρ'' s' hq => absurd hq (ho _), fun v s' d ho k hs kg rd => h.2.1 v s' d ho k hs kg rd, fun e s' ho hs hl => h.2.2 e s' ho hs hl⟩)

theorem wp_execs_append {M : Model} {Γ : Ctx} {env : Env} {Q : Flow → Pos → Shared → Prop} {E : Value → Pos → Shared → Prop} : ∀ {a b : List Stmt} {p : Pos} {s : Shared},
    Sem.wp M Γ (execs (a ++ b) env) Q E p s → Sem.wp M Γ (execs a env) (fun f p' s' => Sem.wp M Γ (match f with | .next => execs b env | f => pure f) Q E p' s') E p s
  | [], b, p, s, h => h
  | st :: r, b, p, s, h => by
    rw [List.cons_append, execs_cons, Sem.wp_bind'] at h
    rw [execs_cons, Sem.wp_bind']
    refine Sem.wp_mono M Γ _ (fun f p' s' h' => ?_) (fun _ _ _ h' => h') _ _ h
    cases f with
    | next => exact wp_execs_append h'
    | _ => exact h'

noncomputable
def outOf : Option D → Out
  | some d => .ret d
  | none => .raise
theorem Exs.ret {e : Expr} {pos : Pos} {rest : List Stmt} {r : Option D} (h : Ev c ρ e r) : Exs c ρ (.Return (some e) pos :: rest) (outOf r) := by
  refine Exs.last (⟨fun O s Q E F hq => ?_⟩) (by cases r <;> intro ρ' <;> exact nofun)
  refine wpAny_Return_some (h.go O s _ E F (fun v s' d hr x rd => ?_) fun e s' hr hs hl => ?_)
  · subst hr
    exact hq.2.1 v s' d rfl (.of x.keep) x.same (F.keep.trans x.keep) rd
  · subst hr
    exact hq.2.2 e s' rfl hs hl
theorem Exs.retd {e : Expr} {pos : Pos} {rest : List Stmt} {d d' : D} (h : Ev c ρ e (some d)) (hd : d = d') : Exs c ρ (.Return (some e) pos :: rest) (.ret d') := hd ▸ Exs.ret h

theorem Ex.assign {x : Str} {e : Expr} {xp pos : Pos} {d : D} {ns : List (Str × NameKind)} (h : Ev c ρ e (some d)) (hs : c.ns = ns) (hk : ns.lookup x = some .local)
    (hw : autoParam (∀ env, swapsWith e (some (.Name x xp)) pos.line env = pure false) aiRfl) : Ex c ρ (.Assign [.Name x xp] e pos) (.next ((x, d) :: ρ)) := by
  refine ⟨?_⟩
  intro O s Q E F hq
  refine wpAny_Assign_Name (h.go O s _ E F (fun v s₁ d' hr x rd => ?_) (fun _ _ hr => by cases hr)) (hw _)
  cases hr
  exact bindName_ok O (F.ext x.keep) rd (hs ▸ hk) fun s' k hs' F' => hq.1 _ s' rfl ((KpL.of x.keep).trans k) (x.same.trans hs') F'
theorem Exs.assign {x : Str} {e : Expr} {xp pos : Pos} {d : D} {ns : List (Str × NameKind)} {rest : List Stmt} {o : Out} (h : Ev c ρ e (some d)) (hs : c.ns = ns) (hk : ns.lookup x = some .local)
    (hr : Exs c ((x, d) :: ρ) rest o) (hw : autoParam (∀ env, swapsWith e (some (.Name x xp)) pos.line env = pure false) aiRfl) : Exs c ρ (.Assign [.Name x xp] e pos :: rest) o :=
  Exs.cons (Ex.assign h hs hk hw) hr

/-- an if: what stands behind it goes into both ways -/
theorem Exs.if_ {t : Expr} {b o' : List Stmt} {pos : Pos} {p : Bool} {rest : List Stmt} {o : Out} (ht : Tr c ρ t p) (h1 : p = true → Exs c ρ (b ++ rest) o) (h2 : p = false → Exs c ρ (o' ++ rest) o) : Exs c ρ (.If t b o' pos :: rest) o := by
  refine ⟨?_⟩
  intro O s Q E F hq Γ p' hΓ
  simp only [execs_cons, Sem.wp_bind', exec_If, Sem.wp_cmd_standAt]
  have key : wpAny c.M c.A (isTrue t c.env (eval t c.env)) (fun q s₁ => wpAny c.M c.A (if q then execs (b ++ rest) c.env else execs (o' ++ rest) c.env) Q E s₁) E s := by
    refine ht.go O s _ E F fun s₁ x => ?_
    have F₁ := F.ext x.keep
    have hq₁ := hq.mono (.of x.keep) x.same
    cases p with
    | true => exact (h1 rfl).go O s₁ Q E F₁ hq₁
    | false => exact (h2 rfl).go O s₁ Q E F₁ hq₁
  refine Sem.wp_mono _ Γ _ (fun q p'' s₁ h => ?_) (fun _ _ _ h' => h') _ _ (key Γ _ hΓ)
  have h' := h Γ p'' hΓ
  cases q with
  | true => exact wp_execs_append h'
  | false => exact wp_execs_append h'
end
end Mine
end
section
open PySem PySem.W PySem.Calls PyProof.Rows
set_option Elab.async false
set_option maxRecDepth 100000
set_option linter.unusedVariables false
namespace Mine

inductive Env2 (g h : Heap) : List (Str × Value) → List (Str × D) → Prop
  | nil : Env2 g h [] []
  | cons {x v d l l'} : Rd g h v d → Env2 g h l l' → Env2 g h ((x, v) :: l) ((x, d) :: l')
theorem Env2.append {g h : Heap} {a b : List (Str × Value)} {a' b' : List (Str × D)} (r : Env2 g h a a') (y : Env2 g h b b') : Env2 g h (a ++ b) (a' ++ b') :=
  Env2.rec (motive := fun a a' _ => Env2 g h (a ++ b) (a' ++ b')) y (fun r _ i => .cons r i) r
theorem Env2.reverse {g h : Heap} {a : List (Str × Value)} {a' : List (Str × D)} (r : Env2 g h a a') : Env2 g h a.reverse a'.reverse :=
  Env2.rec (motive := fun a a' _ => Env2 g h a.reverse a'.reverse) .nil (fun r _ i => by rw [List.reverse_cons, List.reverse_cons]; exact i.append (.cons r .nil)) r
theorem Env2.look {g h : Heap} {x : Str} {d : D} {a : List (Str × Value)} {a' : List (Str × D)} (r : Env2 g h a a') : a'.lookup x = some d → ∃ v, a.lookup x = some v ∧ Rd g h v d :=
  Env2.rec (motive := fun a a' _ => a'.lookup x = some d → ∃ v, a.lookup x = some v ∧ Rd g h v d) (fun e => (none_some e).elim) (fun {y v d' l l'} r _ i => by
    rw [List.lookup_cons, List.lookup_cons]
    generalize (x == y) = q
    cases q with
    | true => exact fun e => ⟨_, rfl, Option.some.inj e ▸ r⟩
    | false => exact i) r
theorem Env2.zip {g h : Heap} {xs : List Str} {vs : List Value} {ds : List D} (r : RdAll g h vs ds) : Env2 g h (xs.zip vs) (xs.zip ds) :=
  r.rec' (m := fun vs ds => ∀ xs : List Str, Env2 g h (xs.zip vs) (xs.zip ds)) (fun xs => by rw [List.zip_nil_right, List.zip_nil_right]; exact .nil)
    (fun {v d vs ds} a _ i xs => List.rec (motive := fun xs => Env2 g h (xs.zip (v :: vs)) (xs.zip (d :: ds))) .nil (fun x xs _ => .cons a (i xs)) xs) xs

theorem nocell_lookup {x : Str} {l : List (Str × NameKind)} : (∀ x ∈ l, x.2 ≠ .cell) → l.lookup x = some .cell → False :=
  List.rec (motive := fun l : List (Str × NameKind) => (∀ x ∈ l, x.2 ≠ .cell) → l.lookup x = some .cell → False) (fun _ e => none_some e) (fun y l i h => by
    rw [List.lookup_cons]
    generalize (x == y.1) = q
    cases q with
    | true => exact fun e => h _ (.head _) (Option.some.inj e)
    | false => exact i fun z hz => h z (.tail _ hz)) l
theorem CallOk.def_ {n i : Nat} {f : Addr} {ds : List D} {o : Out} {r : Option D} {name : Str} {params : Arguments} {body : List Stmt} {scope : Scope} {ps : Pos} {xs : List Str}
    (hst : P0.main.body[i]? = some (PySem.Stmt.FunctionDef name params body [] none [] scope none name ps))
    (hg : ∀ P, nsIn (Ks P) mainGlobals name = some (some (.ref f)))
    (hbind : ∀ (vs : List Value) (pm cd doc : Value), vs.length = ds.length → bindArgs (docDef name params body scope pm cd doc) ⟨vs, []⟩ = Pure.pure (xs.zip vs))
    (hloc : (xs.all fun x => decide (scope.names.lookup x = some .local)) = true)
    (hcell : (scope.names.all fun x => x.2 != .cell) = true)
    (hk : scope.kind = .function) (hco : scope.isCoroutine = false) (hgen : scope.isGenerator = false)
    (hdeep : ∀ d, r = some d → d.deep = true)
    (hout : (o = .next [] ∧ False) ∨ o = outOf r)
    (h : ∀ c : Cx, c.n = n → c.ns = scope.names → Exs c (xs.zip ds).reverse body o) : CallOk (n + 1) (.ref f) ds r := by
  refine ⟨fun w h hsta => ?_, ?_⟩
  · rcases hsta.fn _ _ _ _ _ _ hst with ⟨f', fo, pm, cd, doc, ⟨mg, hmg, hmf⟩, ho', hod, hcd⟩
    rw [mg_of hsta.inK hmg (hg _)] at hmf
    cases hmf
    refine ⟨.frame, .inl rfl, (Looks.ld (part := none) ho').andThen ?_⟩
    rw [hod]
    exact .now
  intro w A base outer s vs Q E hA hd hu hfr hfun hst' hsta hrd hQ hE
  rcases hsta.fn _ _ _ _ _ _ hst with ⟨f', fo, pm, cd, doc, ⟨mg, hmg, hmf⟩, ho', hod, hcd⟩
  rw [mg_of hsta.inK hmg (hg _)] at hmf
  cases hmf
  have hlen := hrd.length
  refine wpAny_call ?_
  refine codeAny_call_def (fd := docDef name params body scope pm cd doc) (body := body) (by (first | lia | omega)) ho' hod hsta.nolimit hcd rfl (BindsTo.of_eq (hbind vs pm cd doc hlen)) ?_ ?_ (fun h₀ hns hk₀ => ?_) hco hgen hk
  · intro x hx e
    have := List.all_eq_true.mp hcell x hx
    simp [e] at this
  · intro x hx
    have hx' : x.1 ∈ xs := (List.of_mem_zip (a := x.1) (b := x.2) hx).1
    exact of_decide_eq_true (List.all_eq_true.mp hloc _ hx')
  let env := callEnv (docDef name params body scope pm cd doc) s.heap.objs.size f
  let c : Cx := ⟨w, A.deeper env, env, s.heap, base, outer, n, scope.names, env :: outer, false⟩
  have hsz : s.heap.get? s.heap.objs.size = none := Heap.get?_none_of_le (Nat.le_refl _)
  have O : c.Ok := ⟨hk, rfl, rfl, rfl, fun _ => rfl, hA, by show A.depth + 1 + n < _; (first | lia | omega), by show A.units + 3 + 10 * n + 100 < _; (first | lia | omega), Around.frames_deeper hfr, fun _ => rfl, fun _ => hfun, fun h => (nomatch h), hst', hsta, hsz⟩
  have F : Fm c (xs.zip ds).reverse h₀ := by
    refine ⟨⟨_, hns, fun x d hx _ => ((Env2.zip (hrd.keeps hk₀)).reverse).look hx⟩, fun x d hx hc => ?_, hk₀, fun _ x hc => ?_⟩
    all_goals exact (nocell_lookup (fun x hx e => by have := List.all_eq_true.mp hcell x hx; simp [e] at this) hc).elim
  refine (h c rfl rfl).go O { s with heap := h₀, toks := s.toks + _ } _ _ F ⟨?_, ?_, ?_⟩
  · intro ρ' s' hq
    obtain ⟨_, hf⟩ | hf := hout
    · exact hf.elim
    · subst hf; cases r <;> cases hq
  · intro v s' d hq kl hs kg rd
    obtain ⟨_, hf⟩ | hf := hout
    · exact hf.elim
    · subst hf
      cases r with
      | none => cases hq
      | some d' =>
        cases hq
        refine hQ v s' _ rfl ⟨kg, (Same.mk' (s := s)).trans hs⟩ fun g => rd.any (hdeep _ rfl)
  · intro e s' hq hs hl
    obtain ⟨_, hf⟩ | hf := hout
    · exact hf.elim
    · subst hf
      cases r with
      | some d' => cases hq
      | none =>
        obtain ⟨a, rfl, hl⟩ := hl
        refine hl rfl _ _ fun h' t x1 x2 => ?_
        obtain ⟨h1, t1, rfl⟩ := (Same.mk' (s := s)).trans hs
        exact hE a t _ rfl x1 x2 ⟨h', t1, rfl⟩

section
variable {w : World} {A : Around} {a b : Int}
theorem bin_add : BinOk w A .Add (.int a) (.int b) (.int (a + b)) := by
  refine ⟨?_⟩
  intro g s va vb Q E st ra rb h
  cases ra; cases rb
  exact PyProof.Rows.add_int (h _ _ .tok (.int _ _))
theorem bin_sub : BinOk w A .Sub (.int a) (.int b) (.int (a - b)) := by
  refine ⟨?_⟩
  intro g s va vb Q E st ra rb h
  cases ra; cases rb
  exact PyProof.Rows.sub_int (h _ _ .tok (.int _ _))
theorem bin_mul (hm : IntMulOk a b) : BinOk w A .Mult (.int a) (.int b) (.int (a * b)) := by
  refine ⟨?_⟩
  intro g s va vb Q E st ra rb h
  cases ra; cases rb
  exact PyProof.Rows.mul_int (h _ _ .tok (.int _ _)) hm
theorem bin_div (hb : b ≠ 0) (hl : b.natAbs.log2 < 9000) : BinOk w A .FloorDiv (.int a) (.int b) (.int (a.fdiv b)) := by
  refine ⟨?_⟩
  intro g s va vb Q E st ra rb h
  cases ra; cases rb
  exact PyProof.Rows.floordiv_int hb (h _ _ .tok (.int _ _)) (.inl (PyProof.noPylong_of_log2 hl))
theorem bin_mod (hb : b ≠ 0) : BinOk w A .Mod (.int a) (.int b) (.int (a.fmod b)) := by
  refine ⟨?_⟩
  intro g s va vb Q E st ra rb h
  cases ra; cases rb
  exact PyProof.Rows.mod_int' hb (h _ _ .tok (.int _ _))
theorem bin_pow (hn : 0 ≤ b) (hn2 : b ≤ 1000000) (ha : a.natAbs < 2 ^ 64) : BinOk w A .Pow (.int a) (.int b) (.int (a ^ b.toNat)) := by
  refine ⟨?_⟩
  intro g s va vb Q E st ra rb h
  cases ra; cases rb
  exact PyProof.Rows.pow_int_small hn hn2 ha (h _ _ .tok (.int _ _))
theorem bin_shl (hn : 0 ≤ b) (hn2 : b ≤ 1000000) (ha : a.natAbs < 2 ^ 64) : BinOk w A .LShift (.int a) (.int b) (.int (a * 2 ^ b.toNat)) := by
  refine ⟨?_⟩
  intro g s va vb Q E st ra rb h
  cases ra; cases rb
  exact PyProof.Rows.lshift_int_small hn hn2 ha (h _ _ .tok (.int _ _))
theorem cmp_lt : CmpOk w A .Lt (.int a) (.int b) (decide (a < b)) := by
  refine ⟨?_⟩
  intro g s va vb Q E st ra rb h
  cases ra; cases rb
  exact PyProof.Rows.lt_int (h _ (.refl _))
theorem cmp_le : CmpOk w A .LtE (.int a) (.int b) (decide (a ≤ b)) := by
  refine ⟨?_⟩
  intro g s va vb Q E st ra rb h
  cases ra; cases rb
  exact PyProof.Rows.le_int (h _ (.refl _))
theorem cmp_gt : CmpOk w A .Gt (.int a) (.int b) (decide (a > b)) := by
  refine ⟨?_⟩
  intro g s va vb Q E st ra rb h
  cases ra; cases rb
  exact PyProof.Rows.gt_int (h _ (.refl _))
theorem cmp_ge : CmpOk w A .GtE (.int a) (.int b) (decide (a ≥ b)) := by
  refine ⟨?_⟩
  intro g s va vb Q E st ra rb h
  cases ra; cases rb
  exact PyProof.Rows.ge_int (h _ (.refl _))
theorem cmp_eq : CmpOk w A .Eq (.int a) (.int b) (a == b) := by
  refine ⟨?_⟩
  intro g s va vb Q E st ra rb h
  cases ra; cases rb
  exact PyProof.Rows.eq_int (h _ (.refl _))
theorem cmp_beq {p q : Bool} : CmpOk w A .Eq (.bool p) (.bool q) (p == q) := by
  refine ⟨?_⟩
  intro g s va vb Q E st ra rb h
  cases ra; cases rb
  exact PyProof.Rows.eq_bool (h _ (.refl _))
theorem cmp_ne : CmpOk w A .NotEq (.int a) (.int b) (a != b) := by
  refine ⟨?_⟩
  intro g s va vb Q E st ra rb h
  cases ra; cases rb
  exact PyProof.Rows.ne_int (h _ (.refl _))
end
end Mine
end
section
open PySem PySem.W PySem.Calls PyProof.Rows
set_option Elab.async false
set_option maxRecDepth 100000
set_option linter.unusedVariables false
namespace Mine

section
variable {a b : Int} {x y : Str}

theorem RdAll.one {g h : Heap} {vs : List Value} {d : D} (r : RdAll g h vs [d]) : ∃ v, vs = [v] ∧ Rd g h v d :=
  let ⟨v, _, e, a, b⟩ := r.cons_inv; ⟨v, b.nil_inv ▸ e, a⟩
theorem RdAll.two {g h : Heap} {vs : List Value} {d e : D} (r : RdAll g h vs [d, e]) : ∃ v u, vs = [v, u] ∧ Rd g h v d ∧ Rd g h u e :=
  let ⟨v, _, e, a, b⟩ := r.cons_inv; let ⟨u, q, r⟩ := b.one; ⟨v, u, q ▸ e, a, r⟩

theorem abs_ok : CallOk 0 (.builtin "abs") [.int a] (some (.int a.natAbs)) := by
  refine ⟨keep_bi, ?_⟩
  intro w A base outer s vs Q E hA hd hu hfr hfun hst hsta hrd hQ hE
  obtain ⟨v, rfl, r⟩ := hrd.one
  cases r
  refine call_abs_int fun u tk => ?_
  have e : (if a < 0 then -a else a) = (a.natAbs : Int) := by (first | lia | omega)
  rw [e]
  exact hQ _ _ _ rfl .tok fun g => .int _ _
theorem max_ok : CallOk 0 (.builtin "max") [.int a, .int b] (some (.int (max a b))) := by
  refine ⟨keep_bi, ?_⟩
  intro w A base outer s vs Q E hA hd hu hfr hfun hst hsta hrd hQ hE
  rcases hrd.two with ⟨v, u, rfl, r, r'⟩
  cases r; cases r'
  refine max_two_ints hA fun h' tk k => ?_
  split
  · exact hQ _ _ _ rfl ⟨k, _, _, rfl⟩ fun g => by rw [show max a b = b by (first | lia | omega)]; exact .int _ _
  · exact hQ _ _ _ rfl ⟨k, _, _, rfl⟩ fun g => by rw [show max a b = a by (first | lia | omega)]; exact .int _ _
theorem min_ok : CallOk 0 (.builtin "min") [.int a, .int b] (some (.int (min a b))) := by
  refine ⟨keep_bi, ?_⟩
  intro w A base outer s vs Q E hA hd hu hfr hfun hst hsta hrd hQ hE
  rcases hrd.two with ⟨v, u, rfl, r, r'⟩
  cases r; cases r'
  refine min_two_ints hA fun h' tk k => ?_
  split
  · exact hQ _ _ _ rfl ⟨k, _, _, rfl⟩ fun g => by rw [show min a b = b by (first | lia | omega)]; exact .int _ _
  · exact hQ _ _ _ rfl ⟨k, _, _, rfl⟩ fun g => by rw [show min a b = a by (first | lia | omega)]; exact .int _ _
theorem divmod_ok (hb : b ≠ 0) (hl : b.natAbs.log2 < 9000) : CallOk 0 (.builtin "divmod") [.int a, .int b] (some (.tup [.int (a.fdiv b), .int (a.fmod b)])) := by
  refine ⟨keep_bi, ?_⟩
  intro w A base outer s vs Q E hA hd hu hfr hfun hst hsta hrd hQ hE
  rcases hrd.two with ⟨v, u, rfl, r, r'⟩
  cases r; cases r'
  refine divmod_int hb (hQ _ _ _ rfl ⟨fun _ _ e => Heap.get?_push_of_some _ e, _, _, rfl⟩ fun g => ?_) (.inl (PyProof.noPylong_of_log2 hl))
  exact .tup (Heap.get?_push_size _ rfl) rfl rfl (.cons (.int _ _) (.cons (.int _ _) .nil))
theorem len_str_ok (hl : x.length < 2 ^ 62) : CallOk 0 (.builtin "len") [.str x] (some (.int x.length)) := by
  refine ⟨keep_bi, ?_⟩
  intro w A base outer s vs Q E hA hd hu hfr hfun hst hsta hrd hQ hE
  obtain ⟨v, rfl, r⟩ := hrd.one
  cases r
  exact PyProof.Rows.len_str (by (first | lia | omega)) (hQ _ _ _ rfl .tok fun g => .int _ _)
theorem len_lst_ok {ds : List D} (hl : ds.length < 2 ^ 62) : CallOk 0 (.builtin "len") [.lst ds] (some (.int ds.length)) := by
  refine ⟨keep_bi, ?_⟩
  intro w A base outer s vs Q E hA hd hu hfr hfun hst hsta hrd hQ hE
  obtain ⟨v, rfl, r⟩ := hrd.one
  rcases Rd.lst_inv r with ⟨_, _, _, _, rfl, h1, h2, h3, h4⟩
  case _ =>
    have hz := h4.length
    rw [Array.length_toList] at hz
    refine PyProof.Rows.len_list ⟨_, h1, h2, _, h3⟩ (by rw [hz]; (first | lia | omega)) ?_
    rw [hz]
    exact hQ _ _ _ rfl .tok fun g => .int _ _
theorem len_tup_ok {ds : List D} (hl : ds.length < 2 ^ 62) : CallOk 0 (.builtin "len") [.tup ds] (some (.int ds.length)) := by
  refine ⟨keep_bi, ?_⟩
  intro w A base outer s vs Q E hA hd hu hfr hfun hst hsta hrd hQ hE
  obtain ⟨v, rfl, r⟩ := hrd.one
  rcases Rd.tup_inv r with ⟨_, _, _, _, rfl, h1, h2, h3, h4⟩
  case _ =>
    have hz := h4.length
    rw [Array.length_toList] at hz
    refine PyProof.Rows.len_tuple ⟨_, h1, h2, _, h3⟩ (by rw [hz]; (first | lia | omega)) ?_
    rw [hz]
    exact hQ _ _ _ rfl .tok fun g => .int _ _
theorem ord_ok (h1 : x.length = 1) : CallOk 0 (.builtin "ord") [.str x] (some (.int (x.cps.getD 0 0 : Nat))) := by
  refine ⟨keep_bi, ?_⟩
  intro w A base outer s vs Q E hA hd hu hfr hfun hst hsta hrd hQ hE
  obtain ⟨v, rfl, r⟩ := hrd.one
  cases r
  exact ord_of_one h1 (hQ _ _ _ rfl .tok fun g => .int _ _)
theorem chr_ok (h0 : 0 ≤ a) (h1 : a ≤ 1114111) : CallOk 0 (.builtin "chr") [.int a] (some (.str ⟨#[a.toNat]⟩)) := by
  refine ⟨keep_bi, ?_⟩
  intro w A base outer s vs Q E hA hd hu hfr hfun hst hsta hrd hQ hE
  obtain ⟨v, rfl, r⟩ := hrd.one
  cases r
  exact chr_of_range h0 h1 (hQ _ _ _ rfl .tok fun g => .str _ _)
theorem str_int_ok (ha : a.natAbs.log2 < 1920) : CallOk 0 (.type "str") [.int a] (some (.str (toString a))) := by
  refine ⟨keep_ty, ?_⟩
  intro w A base outer s vs Q E hA hd hu hfr hfun hst hsta hrd hQ hE
  obtain ⟨v, rfl, r⟩ := hrd.one
  cases r
  exact PySem.P.str_of_int ha (hQ _ _ _ rfl .tok fun g => .str _ _)
end

section
variable {c : Cx} {ρ : List (Str × D)}

theorem Ev.idxT {v i : Expr} {pos : Pos} {ds : List D} {k : Int} {j : Nat} {d : D} (h1 : Ev c ρ v (some (.tup ds))) (h2 : Ev c ρ i (some (.int k))) (hlo : -(2 ^ 63) ≤ k) (hhi : k < 2 ^ 63) (hj : seqIndex? k ds.length = some j) (hd : ds[j]? = some d)
    (hs : autoParam (∀ o u, subscripted i false (.ref o) (.int k u) = operate [.ref o, .int k u] (getItem (.ref o) (.int k u))) aiIwu) : Ev c ρ (.Subscript v i pos) (some d) := by
  refine ⟨?_⟩
  intro O s Q E F hQ _
  refine Subscript_ (h1.go1 O s _ _ F (fun v₁ s₁ x₁ rd₁ => ?_))
  refine h2.go1 O s₁ _ _ (F.ext x₁.keep) (fun v₂ s₂ x₂ rd₂ => ?_)
  cases rd₂
  rcases Rd.tup_inv (rd₁.keeps x₂.keep) with ⟨_, _, _, _, rfl, ho, hc, hd', hr⟩
  case _ =>
    have hz := hr.length
    rw [Array.length_toList] at hz
    rcases hr.get hd with ⟨x, hx, rx⟩
    refine tail_any (IsTup.typeIs ⟨_, ho, hc, _, hd'⟩) slot_tuple_getitem.lookup (PyProof.Rows.getItem_tuple (x := x) ⟨_, ho, hc, _, hd'⟩ hlo hhi (by rw [hz]; exact hj) (by simpa using hx) (hQ _ _ _ rfl (x₁.trans x₂) rx)) (hs _ _)
theorem Ev.idxL {v i : Expr} {pos : Pos} {ds : List D} {k : Int} {d : D} (h1 : Ev c ρ v (some (.lst ds))) (h2 : Ev c ρ i (some (.int k))) (hlo : 0 ≤ k) (hhi : k < 2 ^ 63) (hd : ds[k.toNat]? = some d)
    (hs : autoParam (∀ o u, subscripted i false (.ref o) (.int k u) = operate [.ref o, .int k u] (getItem (.ref o) (.int k u))) aiIwu) : Ev c ρ (.Subscript v i pos) (some d) := by
  refine ⟨?_⟩
  intro O s Q E F hQ _
  refine Subscript_ (h1.go1 O s _ _ F (fun v₁ s₁ x₁ rd₁ => ?_))
  refine h2.go1 O s₁ _ _ (F.ext x₁.keep) (fun v₂ s₂ x₂ rd₂ => ?_)
  cases rd₂
  rcases Rd.lst_inv (rd₁.keeps x₂.keep) with ⟨_, _, _, _, rfl, ho, hc, hd', hr⟩
  case _ =>
    rcases hr.get hd with ⟨x, hx, rx⟩
    have hl : s₂.heap.IsList _ _ := ⟨_, ho, hc, _, hd'⟩
    refine tail_any hl.typeIs slot_list_getitem.lookup (wpAny_getItem_list (x := x) hl hlo hhi (by simpa using hx) (hQ _ _ _ rfl (x₁.trans x₂) rx)) (hs _ _)

theorem Ev.attr {v : Expr} {x : Str} {pos : Pos} {wd : Int} {d : D} (h1 : Ev c ρ v (some (.lim wd)))
    (hx : (x = "width" ∧ d = .int wd) ∨ (x = "real_digits" ∧ d = .int 4) ∨ (x = "double_digits" ∧ d = .int 9) ∨ (x = "top_exponent" ∧ d = .int 30))
    (hg : ∀ P, plainGet (Ks P) 71 x = true) (hh : ∀ P, hasDictIn (Ks P) 71 = true) (ha : ∀ P, findIn (Ks P) (.ref 71) x = some Option.none) (hn : ∀ P, noGet (Ks P) Option.none = true)
    (he : autoParam (∀ env, eval (.Attribute v x pos) env = (do
      let o ← eval v env
      standAt pos.atName
      let r ← holding [o] (getAttr o x true)
      letTemporaryGo v o r
      pure r)) aiIwu) : Ev c ρ (.Attribute v x pos) (some d) := by
  refine ⟨?_⟩
  intro O s Q E F hQ _
  refine Attribute_any_ (h1.go1 O s _ _ F (fun v₁ s₁ x₁ rd₁ => ?_)) (he _)
  cases rd₁ with
  | lim hl =>
    rcases hl.keeps (F.ext x₁.keep).keep with ⟨dx, es, n, t1, t2, t3, t4, g1, g2, g3, g4, g5, g6⟩
    have X := (O.sta.keeps (F.ext x₁.keep).keep).inK
    have I : InstAt s₁.heap _ (instObj 71 dx) 71 (some (dictOf es n)) := ⟨g1, rfl, rfl, g2⟩
    have key : ∃ i t, getL x es = some (some (.int i t)) ∧ d = .int i := by
      obtain ⟨rfl, rfl⟩ | ⟨rfl, rfl⟩ | ⟨rfl, rfl⟩ | ⟨rfl, rfl⟩ := hx
      · exact ⟨_, _, g3, rfl⟩
      · exact ⟨_, _, g4, rfl⟩
      · exact ⟨_, _, g5, rfl⟩
      · exact ⟨_, _, g6, rfl⟩
    rcases key with ⟨i, t, hgl, rfl⟩
    refine get_value X I (plainGet_of (hg _)).1 (findObj_own (hh _) (ha _) (hn _) hgl) rfl (hQ _ _ _ rfl (x₁.trans .tok) (.int _ _))

noncomputable
def D.at : D → Nat → Option D
  | .tup ds, j => ds[j]?
  | .lst ds, j => ds[j]?
  | _, _ => Option.none
theorem seqIndex_nat {j n : Nat} (h : j < n) : seqIndex? (j : Int) n = some j := by
  unfold seqIndex?
  rw [if_neg (by (first | lia | omega) : ¬ ((j : Int) < 0))]
  have e : (decide (0 ≤ (j : Int)) && decide ((j : Int) < n)) = true := by simp [h]
  rw [if_pos e]; simp
theorem Ev.idx {v i : Expr} {pos : Pos} {s : D} {k : Int} {j : Nat} {d : D} (h1 : Ev c ρ v (some s)) (h2 : Ev c ρ i (some (.int k))) (hk : k = (j : Int)) (hhi : j < 2 ^ 62) (hd : s.at j = some d)
    (hs : autoParam (∀ o u, subscripted i false (.ref o) (.int k u) = operate [.ref o, .int k u] (getItem (.ref o) (.int k u))) aiIwu) : Ev c ρ (.Subscript v i pos) (some d) := by
  subst hk
  cases s with
  | tup ds =>
    have hd' : ds[j]? = some d := hd
    have hj : j < ds.length := (List.getElem?_eq_some_iff.mp hd').1
    exact Ev.idxT h1 h2 (by (first | lia | omega)) (by (first | lia | omega)) (seqIndex_nat hj) hd' hs
  | lst ds =>
    have hd' : ds[j]? = some d := hd
    exact Ev.idxL h1 h2 (by (first | lia | omega)) (by (first | lia | omega)) (by simpa using hd') hs
  | _ => cases hd
theorem Ev.idx0 {v : Expr} {pos p : Pos} {kk : Nat} {s d : D} (h1 : Ev c ρ v (some s)) (hd : s.at 0 = some d) : Ev c ρ (.Subscript v (.Constant (.int 0) kk p) pos) (some d) := Ev.idx h1 Ev.int (by rfl) (by decide) hd
theorem Ev.idx1 {v : Expr} {pos p : Pos} {kk : Nat} {s d : D} (h1 : Ev c ρ v (some s)) (hd : s.at 1 = some d) : Ev c ρ (.Subscript v (.Constant (.int 1) kk p) pos) (some d) := Ev.idx h1 Ev.int (by rfl) (by decide) hd

/-- a place is bound to an item -/
theorem assign_name_ok (O : c.Ok) {s : Shared} (F : Fm c ρ s.heap) {x : Str} {pos : Pos} {v : Value} {d : D} (rd : Rd c.g s.heap v d) (hk : c.ns.lookup x = some .local) {Q : Unit → Shared → Prop} {E : Value → Shared → Prop}
    (hQ : ∀ s', KpL c.env.locals s.heap s'.heap → Same s s' → Fm c ((x, d) :: ρ) s'.heap → Q () s') : wpAny c.M c.A (assign (.Name x pos) c.env v) Q E s :=
  PyProof.Rows.assign_Name (bindName_ok O F rd hk hQ)

theorem Rd.kpl {L : Addr} {g h h' : Heap} {m : Str → Option Value} (hm : h.Ns L m) (k : KpL L h h') {v : Value} {d : D} (r : Rd g h v d) : Rd g h' v d := by
  rcases hm with ⟨oL, es, ep, hL, hd, _⟩
  exact r.mono (.refl _) fun b o e hnd => k b o (fun q => by subst q; rw [hL] at e; cases e; obtain ⟨vs, n, hq⟩ := hnd; rw [hd] at hq; cases hq) (fun v q => by obtain ⟨vs, n, hq⟩ := hnd; rw [hq] at q; cases q) e
theorem Fm.kpl {h h' : Heap} (F : Fm c ρ h) (k : KpL c.env.locals h h') {v : Value} {d : D} (r : Rd c.g h v d) : Rd c.g h' v d :=
  let ⟨_, hm, _⟩ := F.ns; r.kpl hm k

theorem Ex.tup2 {x y : Str} {px py : Pos} {k : Nat} {tp pos : Pos} {e : Expr} {d1 d2 : D} {ns : List (Str × NameKind)} (h : Ev c ρ e (some (.tup [d1, d2]))) (hs : c.ns = ns) (hx : ns.lookup x = some .local) (hy : ns.lookup y = some .local)
    (hw : autoParam (∀ env, swapsWithSole [.Tuple [.Name x px, .Name y py] k tp] e pos.line env = pure false) aiRfl)
    (hw2 : autoParam (∀ env, swappedStores [.Tuple [.Name x px, .Name y py] k tp] e env = pure Option.none) aiRfl) :
    Ex c ρ (.Assign [.Tuple [.Name x px, .Name y py] k tp] e pos) (.next ((y, d2) :: (x, d1) :: ρ)) := by
  refine ⟨?_⟩
  intro O s Q E F hq
  refine Assign_Tuple (h.go O s _ E F (fun v s₁ d' hr x₁ rd => ?_) (fun _ _ hr => by cases hr)) (hw _) (hw2 _)
  cases hr
  rcases Rd.tup_inv rd with ⟨_, _, _, _, rfl, ho, hc, hd', hrs⟩
  case _ =>
    rename_i a o vs n
    have F₁ := F.ext x₁.keep
    have hz : vs.size = 2 := by have := hrs.length; rw [Array.length_toList] at this; exact this
    refine assign_Tuple_tuple O.handled ⟨_, ho, hc, _, hd'⟩ (by rw [hz]; rfl) rfl fun h' he => ?_
    have k' : Kp s₁.heap h' := fun b o e => he b o (Nat.ne_of_lt (Heap.lt_size e)) e
    rcases (hrs.keeps k').two with ⟨v1, v2, hv, r1, r2⟩
    rw [hv]
    have F₂ := F₁.ext k'
    refine assignInOrder_cons (assign_name_ok (s := { s₁ with heap := h' }) O F₂ r1 (hs ▸ hx) fun s₂ kl hs₂ F₃ => ?_)
    refine assignInOrder_cons (assign_name_ok O F₃ (F₂.kpl kl r2) (hs ▸ hy) fun s₃ kl₃ hs₃ F₄ => assignInOrder_nil ?_)
    exact hq.1 _ _ rfl ((KpL.of (x₁.keep.trans k')).trans (kl.trans kl₃)) ((x₁.same.trans (Same.mk' (s := s₁) (h := h'))).trans (hs₂.trans hs₃)) F₄
theorem Ex.tup3 {x y z : Str} {px py pz : Pos} {k : Nat} {tp pos : Pos} {e : Expr} {d1 d2 d3 : D} {ns : List (Str × NameKind)} (h : Ev c ρ e (some (.tup [d1, d2, d3]))) (hs : c.ns = ns) (hx : ns.lookup x = some .local) (hy : ns.lookup y = some .local) (hz' : ns.lookup z = some .local)
    (hw : autoParam (∀ env, swapsWithSole [.Tuple [.Name x px, .Name y py, .Name z pz] k tp] e pos.line env = pure false) aiRfl)
    (hw2 : autoParam (∀ env, swappedStores [.Tuple [.Name x px, .Name y py, .Name z pz] k tp] e env = pure Option.none) aiRfl) :
    Ex c ρ (.Assign [.Tuple [.Name x px, .Name y py, .Name z pz] k tp] e pos) (.next ((z, d3) :: (y, d2) :: (x, d1) :: ρ)) := by
  refine ⟨?_⟩
  intro O s Q E F hq
  refine Assign_Tuple (h.go O s _ E F (fun v s₁ d' hr x₁ rd => ?_) (fun _ _ hr => by cases hr)) (hw _) (hw2 _)
  cases hr
  rcases Rd.tup_inv rd with ⟨_, _, _, _, rfl, ho, hc, hd', hrs⟩
  case _ =>
    rename_i a o vs n
    have F₁ := F.ext x₁.keep
    have hz : vs.size = 3 := by have := hrs.length; rw [Array.length_toList] at this; exact this
    refine assign_Tuple_tuple O.handled ⟨_, ho, hc, _, hd'⟩ (by rw [hz]; rfl) rfl fun h' he => ?_
    have k' : Kp s₁.heap h' := fun b o e => he b o (Nat.ne_of_lt (Heap.lt_size e)) e
    have hrs' := hrs.keeps k'
    generalize vs.toList = l at hrs'
    cases hrs' with
    | cons r1 hrs' =>
      rcases hrs'.two with ⟨v2, v3, rfl, r2, r3⟩
      have F₂ := F₁.ext k'
      refine assignInOrder_cons (assign_name_ok (s := { s₁ with heap := h' }) O F₂ r1 (hs ▸ hx) fun s₂ kl hs₂ F₃ => ?_)
      refine assignInOrder_cons (assign_name_ok O F₃ (F₂.kpl kl r2) (hs ▸ hy) fun s₃ kl₃ hs₃ F₄ => ?_)
      refine assignInOrder_cons (assign_name_ok O F₄ (F₃.kpl kl₃ (F₂.kpl kl r3)) (hs ▸ hz') fun s₄ kl₄ hs₄ F₅ => assignInOrder_nil ?_)
      exact hq.1 _ _ rfl ((KpL.of (x₁.keep.trans k')).trans ((kl.trans kl₃).trans kl₄)) ((x₁.same.trans (Same.mk' (s := s₁) (h := h'))).trans ((hs₂.trans hs₃).trans hs₄)) F₅

theorem Ex.swap {names : List Str} {elts : List Expr} {k : Nat} {tp pos : Pos} {e : Expr} {ds : List D} {ρ' : List (Str × D)} (h : Ev c ρ e (some (.tup ds))) (hl : names.length = ds.length)
    (hw : ∀ env, swapsWithSole [.Tuple elts k tp] e pos.line env = pure false) (hw2 : c.Ok → swappedStores [.Tuple elts k tp] e c.env = pure (some names))
    (hb : ∀ (s : Shared) (vs : List Value) (Q : Unit → Shared → Prop) (E : Value → Shared → Prop), c.Ok → Fm c ρ s.heap → RdAll c.g s.heap vs ds → (∀ s', KpL c.env.locals s.heap s'.heap → Same s s' → Fm c ρ' s'.heap → Q () s') →
      wpAny c.M c.A (assignInOrder (names.reverse.map fun n => bindName c.env n) vs.reverse) Q E s) : Ex c ρ (.Assign [.Tuple elts k tp] e pos) (.next ρ') := by
  refine ⟨?_⟩
  intro O s Q E F hq
  refine Assign_Tuple_swapped (names := names) (h.go O s _ E F (fun v s₁ d' hr x₁ rd => ?_) (fun _ _ hr => by cases hr)) (hw _) (hw2 O)
  cases hr
  rcases Rd.tup_inv rd with ⟨_, _, _, _, rfl, ho, hc, hd', hrs⟩
  case _ =>
    rename_i a o vs n
    have F₁ := F.ext x₁.keep
    have hz : vs.size = ds.length := by have := hrs.length; rw [Array.length_toList] at this; exact this
    rw [hl, ← hz]
    refine unpackItems_tuple O.handled ⟨_, ho, hc, _, hd'⟩ fun h' he => ?_
    have k' : Kp s₁.heap h' := fun b o e => he b o (Nat.ne_of_lt (Heap.lt_size e)) e
    exact hb { s₁ with heap := h' } _ _ E O (F₁.ext k') (hrs.keeps k') fun s₂ kl hs₂ F₂ => hq.1 _ _ rfl ((KpL.of (x₁.keep.trans k')).trans kl) ((x₁.same.trans (Same.mk' (s := s₁) (h := h'))).trans hs₂) F₂

theorem Ex.swap2 {x y : Str} {px py : Pos} {k vk : Nat} {tp vp pos : Pos} {e1 e2 : Expr} {d1 d2 : D} {ns : List (Str × NameKind)} (h : Ev c ρ (.Tuple [e1, e2] vk vp) (some (.tup [d1, d2]))) (hs : c.ns = ns) (hx : ns.lookup x = some .local) (hy : ns.lookup y = some .local)
    (hw : autoParam (∀ env, swapsWithSole [.Tuple [.Name x px, .Name y py] k tp] (.Tuple [e1, e2] vk vp) pos.line env = pure false) aiRfl)
    (hw2 : ∀ env : Env, env.blockKind = .function → env.kindOf x = some .local → env.kindOf y = some .local → swappedStores [.Tuple [.Name x px, .Name y py] k tp] (.Tuple [e1, e2] vk vp) env = pure (some [x, y])) :
    Ex c ρ (.Assign [.Tuple [.Name x px, .Name y py] k tp] (.Tuple [e1, e2] vk vp) pos) (.next ((x, d1) :: (y, d2) :: ρ)) := by
  refine Ex.swap (names := [x, y]) h rfl hw (fun O => hw2 _ (by simp only [Env.blockKind, O.kind]; rfl) (O.kindOf hs hx) (O.kindOf hs hy)) ?_
  intro s vs Q E O F hr hQ
  rcases hr.two with ⟨v1, v2, rfl, r1, r2⟩
  refine assignInOrder_cons (wpAny_bindName (bindName_ok O F r2 (hs ▸ hy) fun s₂ kl hs₂ F₂ => ?_))
  refine assignInOrder_cons (wpAny_bindName (bindName_ok O F₂ (F.kpl kl r1) (hs ▸ hx) fun s₃ kl₃ hs₃ F₃ => assignInOrder_nil (hQ _ (kl.trans kl₃) (hs₂.trans hs₃) F₃)))
theorem Ex.swap3 {x y z : Str} {px py pz : Pos} {k vk : Nat} {tp vp pos : Pos} {e1 e2 e3 : Expr} {d1 d2 d3 : D} {ns : List (Str × NameKind)} (h : Ev c ρ (.Tuple [e1, e2, e3] vk vp) (some (.tup [d1, d2, d3]))) (hs : c.ns = ns) (hx : ns.lookup x = some .local) (hy : ns.lookup y = some .local) (hz : ns.lookup z = some .local)
    (hw : autoParam (∀ env, swapsWithSole [.Tuple [.Name x px, .Name y py, .Name z pz] k tp] (.Tuple [e1, e2, e3] vk vp) pos.line env = pure false) aiRfl)
    (hw2 : ∀ env : Env, env.blockKind = .function → env.kindOf x = some .local → env.kindOf y = some .local → env.kindOf z = some .local → swappedStores [.Tuple [.Name x px, .Name y py, .Name z pz] k tp] (.Tuple [e1, e2, e3] vk vp) env = pure (some [x, y, z])) :
    Ex c ρ (.Assign [.Tuple [.Name x px, .Name y py, .Name z pz] k tp] (.Tuple [e1, e2, e3] vk vp) pos) (.next ((x, d1) :: (y, d2) :: (z, d3) :: ρ)) := by
  refine Ex.swap (names := [x, y, z]) h rfl hw (fun O => hw2 _ (by simp only [Env.blockKind, O.kind]; rfl) (O.kindOf hs hx) (O.kindOf hs hy) (O.kindOf hs hz)) ?_
  intro s vs Q E O F hr hQ
  cases hr with
  | cons r1 hr =>
    rcases hr.two with ⟨v2, v3, rfl, r2, r3⟩
    refine assignInOrder_cons (wpAny_bindName (bindName_ok O F r3 (hs ▸ hz) fun s₂ kl hs₂ F₂ => ?_))
    refine assignInOrder_cons (wpAny_bindName (bindName_ok O F₂ (F.kpl kl r2) (hs ▸ hy) fun s₃ kl₃ hs₃ F₃ => ?_))
    refine assignInOrder_cons (wpAny_bindName (bindName_ok O F₃ (F₂.kpl kl₃ (F.kpl kl r1)) (hs ▸ hx) fun s₄ kl₄ hs₄ F₄ => assignInOrder_nil (hQ _ ((kl.trans kl₃).trans kl₄) ((hs₂.trans hs₃).trans hs₄) F₄)))

/-- x op= e on ints -/
structure AugOk (w : World) (A : Around) (op : Operator) (a b d : D) : Prop where
  go : ∀ (g : Heap) (s : Shared) (va vb : Value) (Q E : Value → Shared → Prop), Sta w s.heap → Rd g s.heap va a → Rd g s.heap vb b → (∀ v s', Ext s s' → Rd g s'.heap v d → Q v s') → wpAny (model P0 w) A (inplaceOp op va vb) Q E s
theorem Ex.aug {x : Str} {e : Expr} {op : Operator} {xp pos : Pos} {d0 d1 d : D} {ns : List (Str × NameKind)} (hs : c.ns = ns) (hk : ns.lookup x = some .local) (hd : ρ.lookup x = some d0) (h : Ev c ρ e (some d1)) (ho : AugOk c.w c.A op d0 d1 d) :
    Ex c ρ (.AugAssign (.Name x xp) op e pos) (.next ((x, d) :: ρ)) := by
  refine ⟨?_⟩
  intro O s Q E F hq
  rcases F.ns with ⟨m, hm, hr⟩
  rcases hr x d0 hd (by rw [hs, hk]; decide) with ⟨v, hv, rd⟩
  refine wpAny_AugAssign_Name (wpAny_loadName_local O.kind (O.kindOf hs hk) hm hv ?_)
  refine h.go O s _ E F (fun v₂ s₂ d₂ hd₂ x₂ rd₂ => ?_) (fun _ _ hr => by cases hr)
  cases hd₂
  have F₂ := F.ext x₂.keep
  refine ho.go c.g s₂ v v₂ _ E (O.sta.keeps F₂.keep) (rd.keeps x₂.keep) rd₂ fun v₃ s₃ x₃ rd₃ => ?_
  exact bindName_ok O (F₂.ext x₃.keep) rd₃ (hs ▸ hk) fun s' k hs' F' => hq.1 _ s' rfl ((KpL.of (x₂.keep.trans x₃.keep)).trans k) ((x₂.same.trans x₃.same).trans hs') F'
theorem aug_add {w : World} {A : Around} {a b : Int} : AugOk w A .Add (.int a) (.int b) (.int (a + b)) := by
  refine ⟨?_⟩
  intro g s va vb Q E st ra rb h
  cases ra; cases rb
  exact PyProof.Rows.iadd_int (h _ _ .tok (.int _ _))
theorem aug_div {w : World} {A : Around} {a b : Int} (hb : b ≠ 0) (hl : b.natAbs.log2 < 9000) : AugOk w A .FloorDiv (.int a) (.int b) (.int (a.fdiv b)) := by
  refine ⟨?_⟩
  intro g s va vb Q E st ra rb h
  cases ra; cases rb
  exact PyProof.Rows.ifloordiv_int hb (h _ _ .tok (.int _ _)) (.inl (PyProof.noPylong_of_log2 hl))
end
end Mine
end
section
open PySem PySem.W PySem.Calls PyProof.Rows
set_option Elab.async false
set_option maxRecDepth 100000
set_option linter.unusedVariables false
namespace Mine
theorem CallOk.fn {n : Nat} {f : Addr} {ds : List D} {d : D} {name : Str} {params : Arguments} {body : List Stmt} {scope : Scope} {ps : Pos} (i : Nat) (xs : List Str)
    (hg : ∀ P, nsIn (Ks P) mainGlobals name = some (some (.ref f)))
    (hst : P0.main.body[i]? = some (PySem.Stmt.FunctionDef name params body [] none [] scope none name ps))
    (hbind : ∀ (vs : List Value) (pm cd doc : Value), vs.length = ds.length → bindArgs (docDef name params body scope pm cd doc) ⟨vs, []⟩ = Pure.pure (xs.zip vs))
    (hloc : (xs.all fun x => decide (scope.names.lookup x = some .local)) = true)
    (hcell : (scope.names.all fun x => x.2 != .cell) = true)
    (hk : scope.kind = .function) (hco : scope.isCoroutine = false) (hgen : scope.isGenerator = false)
    (hdeep : d.deep = true)
    (h : ∀ c : Cx, c.n = n → c.ns = scope.names → Exs c (xs.zip ds).reverse body (.ret d)) : CallOk (n + 1) (.ref f) ds (some d) :=
  CallOk.def_ (o := .ret d) hst hg hbind hloc hcell hk hco hgen (fun d' hd => by cases hd; exact hdeep) (.inr rfl) h
theorem CallOk.fnr {n : Nat} {f : Addr} {ds : List D} {name : Str} {params : Arguments} {body : List Stmt} {scope : Scope} {ps : Pos} (i : Nat) (xs : List Str)
    (hg : ∀ P, nsIn (Ks P) mainGlobals name = some (some (.ref f)))
    (hst : P0.main.body[i]? = some (PySem.Stmt.FunctionDef name params body [] none [] scope none name ps))
    (hbind : ∀ (vs : List Value) (pm cd doc : Value), vs.length = ds.length → bindArgs (docDef name params body scope pm cd doc) ⟨vs, []⟩ = Pure.pure (xs.zip vs))
    (hloc : (xs.all fun x => decide (scope.names.lookup x = some .local)) = true)
    (hcell : (scope.names.all fun x => x.2 != .cell) = true)
    (hk : scope.kind = .function) (hco : scope.isCoroutine = false) (hgen : scope.isGenerator = false)
    (h : ∀ c : Cx, c.n = n → c.ns = scope.names → Exs c (xs.zip ds).reverse body .raise) : CallOk (n + 1) (.ref f) ds none :=
  CallOk.def_ (o := .raise) hst hg hbind hloc hcell hk hco hgen (fun d' hd => by cases hd) (.inr rfl) h
theorem len1 {α : Type} {vs : List α} (h : vs.length = 1) : ∃ a, vs = [a] := List.length_eq_one_iff.mp h
theorem lenC {α : Type} {vs : List α} {n : Nat} (h : vs.length = n + 1) : ∃ a t, t.length = n ∧ vs = a :: t := by
  cases vs with
  | nil => exact Nat.noConfusion h
  | cons a t => exact ⟨a, t, Nat.succ.inj h, rfl⟩
theorem len2 {α : Type} {vs : List α} (h : vs.length = 2) : ∃ a b, vs = [a, b] :=
  let ⟨a, _, h, e⟩ := lenC h; let ⟨b, r⟩ := len1 h; ⟨a, b, r ▸ e⟩
theorem len3 {α : Type} {vs : List α} (h : vs.length = 3) : ∃ a b c, vs = [a, b, c] :=
  let ⟨a, _, h, e⟩ := lenC h; let ⟨b, c, r⟩ := len2 h; ⟨a, b, c, r ▸ e⟩
theorem len4 {α : Type} {vs : List α} (h : vs.length = 4) : ∃ a b c d, vs = [a, b, c, d] :=
  let ⟨a, _, h, e⟩ := lenC h; let ⟨b, c, d, r⟩ := len3 h; ⟨a, b, c, d, r ▸ e⟩
theorem len5 {α : Type} {vs : List α} (h : vs.length = 5) : ∃ a b c d e, vs = [a, b, c, d, e] :=
  let ⟨a, _, h, e⟩ := lenC h; let ⟨b, c, d, f, r⟩ := len4 h; ⟨a, b, c, d, f, r ▸ e⟩
theorem len6 {α : Type} {vs : List α} (h : vs.length = 6) : ∃ a b c d e f, vs = [a, b, c, d, e, f] :=
  let ⟨a, _, h, e⟩ := lenC h; let ⟨b, c, d, f, g, r⟩ := len5 h; ⟨a, b, c, d, f, g, r ▸ e⟩

section
variable {p : List Value → Prop}
theorem bd1 (h : ∀ a, p [a]) (vs : List Value) (e : vs.length = 1) : p vs := let ⟨_, q⟩ := len1 e; q ▸ h _
theorem bd2 (h : ∀ a b, p [a, b]) (vs : List Value) (e : vs.length = 2) : p vs := by obtain ⟨_, _, rfl⟩ := len2 e; exact h _ _
theorem bd3 (h : ∀ a b d, p [a, b, d]) (vs : List Value) (e : vs.length = 3) : p vs := by obtain ⟨_, _, _, rfl⟩ := len3 e; exact h _ _ _
theorem bd4 (h : ∀ a b d e, p [a, b, d, e]) (vs : List Value) (e : vs.length = 4) : p vs := by obtain ⟨_, _, _, _, rfl⟩ := len4 e; exact h _ _ _ _
theorem bd5 (h : ∀ a b d e f, p [a, b, d, e, f]) (vs : List Value) (e : vs.length = 5) : p vs := by obtain ⟨_, _, _, _, _, rfl⟩ := len5 e; exact h _ _ _ _ _
theorem bd6 (h : ∀ a b d e f g, p [a, b, d, e, f, g]) (vs : List Value) (e : vs.length = 6) : p vs := by obtain ⟨_, _, _, _, _, _, rfl⟩ := len6 e; exact h _ _ _ _ _ _
end
section
variable {c : Cx} {ρ : List (Str × D)} {o : Out}
theorem Exs.appNil {b : List Stmt} (h : Exs c ρ b o) : Exs c ρ ([] ++ b) o := h
theorem Exs.appCons {s : Stmt} {a b : List Stmt} (h : Exs c ρ (s :: (a ++ b)) o) : Exs c ρ ((s :: a) ++ b) o := h
theorem Exs.tup2 {x y : Str} {px py : Pos} {k : Nat} {tp pos : Pos} {e : Expr} {d1 d2 : D} {ns : List (Str × NameKind)} {rest : List Stmt} (h : Ev c ρ e (some (.tup [d1, d2]))) (hs : c.ns = ns) (hx : ns.lookup x = some .local) (hy : ns.lookup y = some .local)
    (hr : Exs c ((y, d2) :: (x, d1) :: ρ) rest o)
    (hw : autoParam (∀ env, swapsWithSole [.Tuple [.Name x px, .Name y py] k tp] e pos.line env = pure false) aiRfl)
    (hw2 : autoParam (∀ env, swappedStores [.Tuple [.Name x px, .Name y py] k tp] e env = pure Option.none) aiRfl) :
    Exs c ρ (.Assign [.Tuple [.Name x px, .Name y py] k tp] e pos :: rest) o := Exs.cons (Ex.tup2 h hs hx hy hw hw2) hr
theorem Exs.tup3 {x y z : Str} {px py pz : Pos} {k : Nat} {tp pos : Pos} {e : Expr} {d1 d2 d3 : D} {ns : List (Str × NameKind)} {rest : List Stmt} (h : Ev c ρ e (some (.tup [d1, d2, d3]))) (hs : c.ns = ns) (hx : ns.lookup x = some .local) (hy : ns.lookup y = some .local) (hz : ns.lookup z = some .local)
    (hr : Exs c ((z, d3) :: (y, d2) :: (x, d1) :: ρ) rest o)
    (hw : autoParam (∀ env, swapsWithSole [.Tuple [.Name x px, .Name y py, .Name z pz] k tp] e pos.line env = pure false) aiRfl)
    (hw2 : autoParam (∀ env, swappedStores [.Tuple [.Name x px, .Name y py, .Name z pz] k tp] e env = pure Option.none) aiRfl) :
    Exs c ρ (.Assign [.Tuple [.Name x px, .Name y py, .Name z pz] k tp] e pos :: rest) o := Exs.cons (Ex.tup3 h hs hx hy hz hw hw2) hr
theorem Exs.swap2 {x y : Str} {px py : Pos} {k vk : Nat} {tp vp pos : Pos} {e1 e2 : Expr} {d1 d2 : D} {ns : List (Str × NameKind)} {rest : List Stmt} (h : Evs c ρ [e1, e2] [d1, d2]) (hs : c.ns = ns) (hx : ns.lookup x = some .local) (hy : ns.lookup y = some .local)
    (hsw : ∀ env : Env, env.blockKind = .function → env.kindOf x = some .local → env.kindOf y = some .local → swappedStores [.Tuple [.Name x px, .Name y py] k tp] (.Tuple [e1, e2] vk vp) env = pure (some [x, y]))
    (hr : Exs c ((x, d1) :: (y, d2) :: ρ) rest o)
    (hw : autoParam (∀ env, swapsWithSole [.Tuple [.Name x px, .Name y py] k tp] (.Tuple [e1, e2] vk vp) pos.line env = pure false) aiRfl) :
    Exs c ρ (.Assign [.Tuple [.Name x px, .Name y py] k tp] (.Tuple [e1, e2] vk vp) pos :: rest) o := Exs.cons (Ex.swap2 (Ev.tup h (by rw [sizeLine_eq]; simp only [List.length_cons, List.length_nil]; (first | lia | omega))) hs hx hy hw hsw) hr
theorem Exs.swap3 {x y z : Str} {px py pz : Pos} {k vk : Nat} {tp vp pos : Pos} {e1 e2 e3 : Expr} {d1 d2 d3 : D} {ns : List (Str × NameKind)} {rest : List Stmt} (h : Evs c ρ [e1, e2, e3] [d1, d2, d3]) (hs : c.ns = ns) (hx : ns.lookup x = some .local) (hy : ns.lookup y = some .local) (hz : ns.lookup z = some .local)
    (hsw : ∀ env : Env, env.blockKind = .function → env.kindOf x = some .local → env.kindOf y = some .local → env.kindOf z = some .local → swappedStores [.Tuple [.Name x px, .Name y py, .Name z pz] k tp] (.Tuple [e1, e2, e3] vk vp) env = pure (some [x, y, z]))
    (hr : Exs c ((x, d1) :: (y, d2) :: (z, d3) :: ρ) rest o)
    (hw : autoParam (∀ env, swapsWithSole [.Tuple [.Name x px, .Name y py, .Name z pz] k tp] (.Tuple [e1, e2, e3] vk vp) pos.line env = pure false) aiRfl) :
    Exs c ρ (.Assign [.Tuple [.Name x px, .Name y py, .Name z pz] k tp] (.Tuple [e1, e2, e3] vk vp) pos :: rest) o := Exs.cons (Ex.swap3 (Ev.tup h (by rw [sizeLine_eq]; simp only [List.length_cons, List.length_nil]; (first | lia | omega))) hs hx hy hz hw hsw) hr
theorem Exs.aug {x : Str} {e : Expr} {op : Operator} {xp pos : Pos} {d0 d1 d : D} {ns : List (Str × NameKind)} {rest : List Stmt} (hs : c.ns = ns) (hk : ns.lookup x = some .local) (hd : ρ.lookup x = some d0) (h : Ev c ρ e (some d1)) (ho : AugOk c.w c.A op d0 d1 d)
    (hr : Exs c ((x, d) :: ρ) rest o) : Exs c ρ (.AugAssign (.Name x xp) op e pos :: rest) o := Exs.cons (Ex.aug hs hk hd h ho) hr
end
end Mine
end
section
open PySem PySem.W PySem.Calls PyProof.Rows
set_option Elab.async false
set_option maxRecDepth 100000
set_option linter.unusedVariables false
namespace Mine
section
variable {c : Cx} {ρ : List (Str × D)} {o : Out}
/-- every binding of the second stands in the first -/
noncomputable
def Sub (ρ : List (Str × D)) : List (Str × D) → Prop
  | [] => True
  | p :: r => ρ.lookup p.1 = some p.2 ∧ Sub ρ r
theorem Sub.look {ρ : List (Str × D)} : ∀ {ρ' : List (Str × D)} {x : Str} {d : D}, Sub ρ ρ' → ρ'.lookup x = some d → ρ.lookup x = some d
  | [], _, _, _, e => by simp at e
  | (y, d') :: r, x, d, h, e => by
    rw [List.lookup_cons] at e
    cases q : (x == y) with
    | true => rw [q] at e; cases e; rw [eq_of_beq q]; exact h.1
    | false => rw [q] at e; exact h.2.look e
theorem Fm.sub {ρ' : List (Str × D)} {h : Heap} (F : Fm c ρ h) (hs : Sub ρ ρ') : Fm c ρ' h :=
  ⟨let ⟨m, a, b⟩ := F.ns; ⟨m, a, fun x d e hc => b x d (hs.look e) hc⟩, fun x d e hc => F.cl x d (hs.look e) hc, F.keep, F.ce⟩

inductive WhInv {σ : Type} (c : Cx) (ρf : σ → List (Str × D)) (P : σ → Prop) (μ : σ → Nat) (s : Shared) (n : Nat) (s' : Shared) : Prop
  | mk (x : σ) (p : P x) (m : μ x = n) (F : Fm c (ρf x) s'.heap) (kp : KpL c.env.locals s.heap s'.heap) (sm : Same s s')
theorem ctr {i n : Nat} (h : i < n) : n + 1 - (i + 1) < n + 1 - i := by omega
theorem Exs.while_ {σ : Type} {test : Expr} {body rest : List Stmt} {pos : Pos} (ρf : σ → List (Str × D)) (P : σ → Prop) (μ : σ → Nat) (tb : σ → Bool) (st : σ → σ) (x₀ : σ)
    (h0 : P x₀) (hs : Sub ρ (ρf x₀)) (hT : ∀ x, P x → Tr c (ρf x) test (tb x))
    (hB : ∀ x, P x → tb x = true → ∃ ρ', Exs c (ρf x) body (.next ρ') ∧ Sub ρ' (ρf (st x)) ∧ P (st x) ∧ μ (st x) < μ x)
    (hR : ∀ x, P x → tb x = false → Exs c (ρf x) rest o) : Exs c ρ (.While test body [] pos :: rest) o := by
  refine ⟨?_⟩
  intro O s Q E F hq
  refine wpAny_execs_cons (wpAny_While (codeAny_whileLoop (WhInv c ρf P μ s) ?_ _ ⟨x₀, h0, rfl, F.sub hs, .refl _ _, .refl _⟩))
  rintro n s₁ ⟨x, hx, rfl, F₁, k₁, e₁⟩
  refine (hT x hx).go O s₁ _ _ F₁ fun s₂ x₂ => ?_
  have F₂ := F₁.ext x₂.keep
  cases ht : tb x with
  | true =>
    rcases hB x hx ht with ⟨ρ', hb, hsub, hp, hm⟩
    refine hb.go O s₂ _ _ F₂ ⟨fun ρ'' s₃ hq₃ k₃ e₃ F₃ => ?_, fun _ _ _ hq₃ => (nomatch hq₃), fun _ _ hq₃ => (nomatch hq₃)⟩
    cases hq₃
    exact ⟨_, hm, st x, hp, rfl, F₃.sub hsub, k₁.trans ((KpL.of x₂.keep).trans k₃), e₁.trans (x₂.same.trans e₃)⟩
  | false =>
    refine wpAny_execs_nil ?_
    exact (hR x hx ht).go O s₂ Q E F₂ (hq.mono (k₁.trans (.of x₂.keep)) (e₁.trans x₂.same))

theorem Fm.sameBut {I : Addr} {h h' : Heap} (F : Fm c ρ h) {oI : Obj} {vs : Array Value} (hI : h.get? I = some oI) (hd : oI.data = .fields vs) (hg : c.g.get? I = Option.none) (hs : Heap.ExtBut I h h') : Fm c ρ h' := by
  rcases F.ns with ⟨m, ⟨oL, es, ep, hL, hLd, r⟩, b⟩
  have hLI : c.env.locals ≠ I := neD hL hI hd hLd (fun z => nomatch z)
  have kd : ∀ a o, h.get? a = some o → (∃ vs n, o.data = .seq vs n) → h'.get? a = some o := fun a o e hq => hs a o (neSeq e hI hd hq (fun _ _ z => nomatch z)) e
  refine ⟨⟨m, ⟨oL, es, ep, hs _ _ hLI hL, hLd, r⟩, fun x d e hc => ?_⟩, fun x d e hc => ?_, fun a o e => hs a o (neN e hg) (F.keep a o e), fun hc x hx => ?_⟩
  · rcases b x d e hc with ⟨v, h1, h2⟩
    exact ⟨v, h1, h2.mono (.refl _) kd⟩
  · rcases F.cl x d e hc with ⟨a, v, h1, ⟨oc, hoc, hcd⟩, h3⟩
    exact ⟨a, v, h1, ⟨oc, hs a oc (neD hoc hI hd hcd (fun z => nomatch z)) hoc, hcd⟩, h3.mono (.refl _) kd⟩
  · rcases F.ce hc x hx with ⟨a, v, h1, ⟨oc, hoc, hcd⟩, h3⟩
    exact ⟨a, v, h1, ⟨oc, hs a oc (neD hoc hI hd hcd (fun z => nomatch z)) hoc, hcd⟩, h3⟩

inductive ForLInv (c : Cx) (ρf : Nat → List (Str × D)) (s₁ : Shared) (I l : Addr) (ol : Obj) (vs : Array Value) (ds : List D) (k : Nat) (s' : Shared) : Prop
  | mk (i : Nat) (e : k = ds.length + 1 - i) (hi : i ≤ ds.length) (it : s'.heap.IsListIter I l i) (hl : s'.heap.get? l = some ol) (R : RdAll c.g s'.heap vs.toList ds) (F : Fm c (ρf i) s'.heap) (kp : KpL c.env.locals s₁.heap s'.heap) (sm : Same s₁ s')
/-- for x in a list -/
theorem Exs.forL {x : Str} {it : Expr} {body rest : List Stmt} {xp pos : Pos} {ds : List D} {ns : List (Str × NameKind)} (ρf : Nat → List (Str × D)) (hi : Ev c ρ it (some (.lst ds))) (hns : c.ns = ns) (hk : ns.lookup x = some .local)
    (hs : Sub ρ (ρf 0))
    (hB : ∀ i d, ds[i]? = some d → ∃ ρ', Exs c ((x, d) :: ρf i) body (.next ρ') ∧ Sub ρ' (ρf (i + 1)))
    (hR : Exs c (ρf ds.length) rest o) (hfs : autoParam (∀ env v, foldedSetIterable it env v = pure v) aiRfl) : Exs c ρ (.For (.Name x xp) it body [] pos :: rest) o := by
  refine ⟨?_⟩
  intro O s Q E F hq
  refine wpAny_execs_cons (wpAny_For (hi.go1 O s _ _ F (fun v s₁ x₁ rd => ?_)) (hfs _))
  have F₁ := F.ext x₁.keep
  rcases Rd.lst_inv rd with ⟨_, _, _, _, rfl, ho, hc, hd', hrs⟩
  case _ =>
    rename_i l ol vs nl
    have hl : s₁.heap.IsList l vs := ⟨_, ho, hc, _, hd'⟩
    refine wpAny_pyIter_list hl ?_
    have hI0 : s₁.heap.get? s₁.heap.objs.size = Option.none := Heap.get?_none_of_le (Nat.le_refl _)
    have hgI : c.g.get? s₁.heap.objs.size = Option.none := Kp.none F₁.keep hI0
    have hlI : l ≠ s₁.heap.objs.size := neN ho hI0
    have hLI : c.env.locals ≠ s₁.heap.objs.size := F₁.neL hI0
    let I := s₁.heap.objs.size
    refine codeAny_forLoop (ForLInv c ρf s₁ I l ol vs ds) ?_ (ds.length + 1)
      ⟨0, rfl, Nat.zero_le _, ⟨_, Heap.get?_push_size _ rfl, rfl, rfl⟩, Heap.get?_push_of_some _ ho, hrs.keeps fun _ _ e => Heap.get?_push_of_some _ e, (F₁.ext fun _ _ e => Heap.get?_push_of_some _ e).sub ?_, fun _ _ _ _ e => Heap.get?_push_of_some _ e, ⟨_, _, rfl⟩⟩
    · rintro n s₂ ⟨i, rfl, hile, hit, hol, hrs₂, F₂, k₂, e₂⟩
      rcases id hit with ⟨oI, hoI, hcI, hdI⟩
      cases hdi : ds[i]? with
      | none =>
        have hlen := hrs₂.length
        have hi' : i = ds.length := Nat.le_antisymm hile (List.getElem?_eq_none_iff.mp hdi)
        subst hi'
        refine wpAny_pyNext_list_end O.handled hit ⟨_, hol, hc, _, hd'⟩ (by rw [Array.length_toList] at hlen; exact Array.getElem?_eq_none (Nat.le_of_eq hlen)) fun h' he => ?_
        refine wpAny_execs_nil ?_
        have kk : KpL c.env.locals s.heap h' := fun b o hb hq e => he b o (fun q => by
          have h1 := x₁.keep _ _ e
          rw [q, hI0] at h1; cases h1) (k₂ b o hb hq (x₁.keep _ _ e))
        exact hR.go O _ Q E (F₂.sameBut hoI hdI hgI he) (hq.mono kk (x₁.same.trans (e₂.trans ⟨_, _, rfl⟩)))
      | some d =>
        rcases hrs₂.get hdi with ⟨v, hv, rv⟩
        have hidx : vs[i]? = some v := by rw [← Array.getElem?_toList]; exact hv
        refine wpAny_pyNext_list_item hit ⟨_, hol, hc, _, hd'⟩ hidx fun h' hit' hsb => ?_
        have F₃ := F₂.sameBut hoI hdI hgI hsb.extBut
        have hil : i < ds.length := (List.getElem?_eq_some_iff.mp hdi).1
        have hseq : ∀ a o, s₂.heap.get? a = some o → (∃ vs n, o.data = .seq vs n) → h'.get? a = some o := fun a o e hq => hsb.extBut a o (neSeq e hoI hdI hq (fun _ _ z => nomatch z)) e
        refine assign_name_ok (s := { s₂ with heap := h' }) O F₃ (rv.mono (.refl _) hseq) (hns ▸ hk) fun s₄ k₄ e₄ F₄ => ?_
        rcases hB i d hdi with ⟨ρ', hb, hsub⟩
        refine hb.go O s₄ _ _ F₄ ⟨fun ρ'' s₅ hq₅ k₅ e₅ F₅ => ?_, fun _ _ _ hq₅ => (nomatch hq₅), fun _ _ hq₅ => (nomatch hq₅)⟩
        cases hq₅
        have k45 := k₄.trans k₅
        refine ⟨ds.length + 1 - (i + 1), ctr hil, i + 1, rfl, hil, ?_, k45 _ _ (fun q => ?_) (fun v q => by rw [hd'] at q; cases q) (hseq _ _ hol ⟨_, _, hd'⟩), ?_, F₅.sub hsub, ?_, e₂.trans ((Same.mk' (s := s₂) (h := h')).trans (e₄.trans e₅))⟩
        · rcases hit' with ⟨o', ho', hc', hd''⟩
          exact ⟨o', k45 _ _ (Ne.symm hLI) (fun v q => by rw [hd''] at q; cases q) ho', hc', hd''⟩
        · rcases F₂.ns with ⟨m, ⟨oL, es, ep, hL, hLd, _⟩, _⟩
          rw [← q, hol] at hL; cases hL; rw [hd'] at hLd; cases hLd
        · rcases F₃.ns with ⟨m, hm, _⟩
          refine (hrs₂.mono (.refl _) hseq).mono (.refl _) fun a o e hq => k45 a o (fun q => ?_) (fun v q => by obtain ⟨ws, n, hq⟩ := hq; rw [hq] at q; cases q) e
          rcases hm with ⟨oL, es, ep, hL, hLd, _⟩
          rcases hq with ⟨ws, n, hq⟩
          rw [q] at e
          rw [hL] at e; cases e; rw [hLd] at hq; cases hq
        · intro b o hb hqc e
          refine k45 b o hb hqc (hsb.extBut b o (fun q => ?_) (k₂ b o hb hqc e))
          rw [q, hI0] at e; cases e
    · exact hs
end
end Mine
end
section
open PySem PySem.W PySem.Calls PyProof.Rows
set_option Elab.async false
set_option maxRecDepth 100000
set_option linter.unusedVariables false
namespace Mine
theorem g_value_by (P : Params) : nsIn (Ks P) mainGlobals (Str.ofString "value_by") = some (some (.ref 53)) := by kernel_rfl
theorem e_value_by {c : Cx} {ρ : List (Str × D)} {pos : Pos} {ns : List (Str × NameKind)} (hs : c.ns = ns) (hk : ns.lookup (Str.ofString "value_by") = some .globalImplicit) : Ev c ρ (.Name (Str.ofString "value_by") pos) (some (.val (.ref 53))) := Ev.fn hs hk g_value_by
theorem g_fit_int (P : Params) : nsIn (Ks P) mainGlobals (Str.ofString "fit_int") = some (some (.ref 82)) := by kernel_rfl
theorem e_fit_int {c : Cx} {ρ : List (Str × D)} {pos : Pos} {ns : List (Str × NameKind)} (hs : c.ns = ns) (hk : ns.lookup (Str.ofString "fit_int") = some .globalImplicit) : Ev c ρ (.Name (Str.ofString "fit_int") pos) (some (.val (.ref 82))) := Ev.fn hs hk g_fit_int
theorem g_cut_quotient (P : Params) : nsIn (Ks P) mainGlobals (Str.ofString "cut_quotient") = some (some (.ref 89)) := by kernel_rfl
theorem e_cut_quotient {c : Cx} {ρ : List (Str × D)} {pos : Pos} {ns : List (Str × NameKind)} (hs : c.ns = ns) (hk : ns.lookup (Str.ofString "cut_quotient") = some .globalImplicit) : Ev c ρ (.Name (Str.ofString "cut_quotient") pos) (some (.val (.ref 89))) := Ev.fn hs hk g_cut_quotient
theorem g_order_of (P : Params) : nsIn (Ks P) mainGlobals (Str.ofString "order_of") = some (some (.ref 96)) := by kernel_rfl
theorem e_order_of {c : Cx} {ρ : List (Str × D)} {pos : Pos} {ns : List (Str × NameKind)} (hs : c.ns = ns) (hk : ns.lookup (Str.ofString "order_of") = some .globalImplicit) : Ev c ρ (.Name (Str.ofString "order_of") pos) (some (.val (.ref 96))) := Ev.fn hs hk g_order_of
theorem g_count_digits (P : Params) : nsIn (Ks P) mainGlobals (Str.ofString "count_digits") = some (some (.ref 104)) := by kernel_rfl
theorem e_count_digits {c : Cx} {ρ : List (Str × D)} {pos : Pos} {ns : List (Str × NameKind)} (hs : c.ns = ns) (hk : ns.lookup (Str.ofString "count_digits") = some .globalImplicit) : Ev c ρ (.Name (Str.ofString "count_digits") pos) (some (.val (.ref 104))) := Ev.fn hs hk g_count_digits
theorem g_strip_zeros (P : Params) : nsIn (Ks P) mainGlobals (Str.ofString "strip_zeros") = some (some (.ref 111)) := by kernel_rfl
theorem e_strip_zeros {c : Cx} {ρ : List (Str × D)} {pos : Pos} {ns : List (Str × NameKind)} (hs : c.ns = ns) (hk : ns.lookup (Str.ofString "strip_zeros") = some .globalImplicit) : Ev c ρ (.Name (Str.ofString "strip_zeros") pos) (some (.val (.ref 111))) := Ev.fn hs hk g_strip_zeros
theorem g_round_digits (P : Params) : nsIn (Ks P) mainGlobals (Str.ofString "round_digits") = some (some (.ref 118)) := by kernel_rfl
theorem e_round_digits {c : Cx} {ρ : List (Str × D)} {pos : Pos} {ns : List (Str × NameKind)} (hs : c.ns = ns) (hk : ns.lookup (Str.ofString "round_digits") = some .globalImplicit) : Ev c ρ (.Name (Str.ofString "round_digits") pos) (some (.val (.ref 118))) := Ev.fn hs hk g_round_digits
theorem g_round_real (P : Params) : nsIn (Ks P) mainGlobals (Str.ofString "round_real") = some (some (.ref 125)) := by kernel_rfl
theorem e_round_real {c : Cx} {ρ : List (Str × D)} {pos : Pos} {ns : List (Str × NameKind)} (hs : c.ns = ns) (hk : ns.lookup (Str.ofString "round_real") = some .globalImplicit) : Ev c ρ (.Name (Str.ofString "round_real") pos) (some (.val (.ref 125))) := Ev.fn hs hk g_round_real
theorem g_exact_add (P : Params) : nsIn (Ks P) mainGlobals (Str.ofString "exact_add") = some (some (.ref 132)) := by kernel_rfl
theorem e_exact_add {c : Cx} {ρ : List (Str × D)} {pos : Pos} {ns : List (Str × NameKind)} (hs : c.ns = ns) (hk : ns.lookup (Str.ofString "exact_add") = some .globalImplicit) : Ev c ρ (.Name (Str.ofString "exact_add") pos) (some (.val (.ref 132))) := Ev.fn hs hk g_exact_add
theorem g_exact_mul (P : Params) : nsIn (Ks P) mainGlobals (Str.ofString "exact_mul") = some (some (.ref 139)) := by kernel_rfl
theorem e_exact_mul {c : Cx} {ρ : List (Str × D)} {pos : Pos} {ns : List (Str × NameKind)} (hs : c.ns = ns) (hk : ns.lookup (Str.ofString "exact_mul") = some .globalImplicit) : Ev c ρ (.Name (Str.ofString "exact_mul") pos) (some (.val (.ref 139))) := Ev.fn hs hk g_exact_mul
theorem g_real_neg (P : Params) : nsIn (Ks P) mainGlobals (Str.ofString "real_neg") = some (some (.ref 146)) := by kernel_rfl
theorem e_real_neg {c : Cx} {ρ : List (Str × D)} {pos : Pos} {ns : List (Str × NameKind)} (hs : c.ns = ns) (hk : ns.lookup (Str.ofString "real_neg") = some .globalImplicit) : Ev c ρ (.Name (Str.ofString "real_neg") pos) (some (.val (.ref 146))) := Ev.fn hs hk g_real_neg
theorem g_real_sub (P : Params) : nsIn (Ks P) mainGlobals (Str.ofString "real_sub") = some (some (.ref 153)) := by kernel_rfl
theorem e_real_sub {c : Cx} {ρ : List (Str × D)} {pos : Pos} {ns : List (Str × NameKind)} (hs : c.ns = ns) (hk : ns.lookup (Str.ofString "real_sub") = some .globalImplicit) : Ev c ρ (.Name (Str.ofString "real_sub") pos) (some (.val (.ref 153))) := Ev.fn hs hk g_real_sub
theorem g_real_compare (P : Params) : nsIn (Ks P) mainGlobals (Str.ofString "real_compare") = some (some (.ref 160)) := by kernel_rfl
theorem e_real_compare {c : Cx} {ρ : List (Str × D)} {pos : Pos} {ns : List (Str × NameKind)} (hs : c.ns = ns) (hk : ns.lookup (Str.ofString "real_compare") = some .globalImplicit) : Ev c ρ (.Name (Str.ofString "real_compare") pos) (some (.val (.ref 160))) := Ev.fn hs hk g_real_compare
theorem g_real_of_int (P : Params) : nsIn (Ks P) mainGlobals (Str.ofString "real_of_int") = some (some (.ref 167)) := by kernel_rfl
theorem e_real_of_int {c : Cx} {ρ : List (Str × D)} {pos : Pos} {ns : List (Str × NameKind)} (hs : c.ns = ns) (hk : ns.lookup (Str.ofString "real_of_int") = some .globalImplicit) : Ev c ρ (.Name (Str.ofString "real_of_int") pos) (some (.val (.ref 167))) := Ev.fn hs hk g_real_of_int
theorem g_real_to_int (P : Params) : nsIn (Ks P) mainGlobals (Str.ofString "real_to_int") = some (some (.ref 174)) := by kernel_rfl
theorem e_real_to_int {c : Cx} {ρ : List (Str × D)} {pos : Pos} {ns : List (Str × NameKind)} (hs : c.ns = ns) (hk : ns.lookup (Str.ofString "real_to_int") = some .globalImplicit) : Ev c ρ (.Name (Str.ofString "real_to_int") pos) (some (.val (.ref 174))) := Ev.fn hs hk g_real_to_int
theorem g_digits_of (P : Params) : nsIn (Ks P) mainGlobals (Str.ofString "digits_of") = some (some (.ref 181)) := by kernel_rfl
theorem e_digits_of {c : Cx} {ρ : List (Str × D)} {pos : Pos} {ns : List (Str × NameKind)} (hs : c.ns = ns) (hk : ns.lookup (Str.ofString "digits_of") = some .globalImplicit) : Ev c ρ (.Name (Str.ofString "digits_of") pos) (some (.val (.ref 181))) := Ev.fn hs hk g_digits_of
theorem g_collate (P : Params) : nsIn (Ks P) mainGlobals (Str.ofString "collate") = some (some (.ref 188)) := by kernel_rfl
theorem e_collate {c : Cx} {ρ : List (Str × D)} {pos : Pos} {ns : List (Str × NameKind)} (hs : c.ns = ns) (hk : ns.lookup (Str.ofString "collate") = some .globalImplicit) : Ev c ρ (.Name (Str.ofString "collate") pos) (some (.val (.ref 188))) := Ev.fn hs hk g_collate
theorem g_real_as (P : Params) : nsIn (Ks P) mainGlobals (Str.ofString "real_as") = some (some (.ref 195)) := by kernel_rfl
theorem e_real_as {c : Cx} {ρ : List (Str × D)} {pos : Pos} {ns : List (Str × NameKind)} (hs : c.ns = ns) (hk : ns.lookup (Str.ofString "real_as") = some .globalImplicit) : Ev c ρ (.Name (Str.ofString "real_as") pos) (some (.val (.ref 195))) := Ev.fn hs hk g_real_as
theorem g_convert (P : Params) : nsIn (Ks P) mainGlobals (Str.ofString "convert") = some (some (.ref 202)) := by kernel_rfl
theorem e_convert {c : Cx} {ρ : List (Str × D)} {pos : Pos} {ns : List (Str × NameKind)} (hs : c.ns = ns) (hk : ns.lookup (Str.ofString "convert") = some .globalImplicit) : Ev c ρ (.Name (Str.ofString "convert") pos) (some (.val (.ref 202))) := Ev.fn hs hk g_convert
theorem g_half_up (P : Params) : nsIn (Ks P) mainGlobals (Str.ofString "half_up") = some (some (.ref 209)) := by kernel_rfl
theorem e_half_up {c : Cx} {ρ : List (Str × D)} {pos : Pos} {ns : List (Str × NameKind)} (hs : c.ns = ns) (hk : ns.lookup (Str.ofString "half_up") = some .globalImplicit) : Ev c ρ (.Name (Str.ofString "half_up") pos) (some (.val (.ref 209))) := Ev.fn hs hk g_half_up
theorem g_as_int (P : Params) : nsIn (Ks P) mainGlobals (Str.ofString "as_int") = some (some (.ref 216)) := by kernel_rfl
theorem e_as_int {c : Cx} {ρ : List (Str × D)} {pos : Pos} {ns : List (Str × NameKind)} (hs : c.ns = ns) (hk : ns.lookup (Str.ofString "as_int") = some .globalImplicit) : Ev c ρ (.Name (Str.ofString "as_int") pos) (some (.val (.ref 216))) := Ev.fn hs hk g_as_int
theorem g_as_real (P : Params) : nsIn (Ks P) mainGlobals (Str.ofString "as_real") = some (some (.ref 223)) := by kernel_rfl
theorem e_as_real {c : Cx} {ρ : List (Str × D)} {pos : Pos} {ns : List (Str × NameKind)} (hs : c.ns = ns) (hk : ns.lookup (Str.ofString "as_real") = some .globalImplicit) : Ev c ρ (.Name (Str.ofString "as_real") pos) (some (.val (.ref 223))) := Ev.fn hs hk g_as_real
theorem g_as_double (P : Params) : nsIn (Ks P) mainGlobals (Str.ofString "as_double") = some (some (.ref 230)) := by kernel_rfl
theorem e_as_double {c : Cx} {ρ : List (Str × D)} {pos : Pos} {ns : List (Str × NameKind)} (hs : c.ns = ns) (hk : ns.lookup (Str.ofString "as_double") = some .globalImplicit) : Ev c ρ (.Name (Str.ofString "as_double") pos) (some (.val (.ref 230))) := Ev.fn hs hk g_as_double
theorem g_as_complex (P : Params) : nsIn (Ks P) mainGlobals (Str.ofString "as_complex") = some (some (.ref 237)) := by kernel_rfl
theorem e_as_complex {c : Cx} {ρ : List (Str × D)} {pos : Pos} {ns : List (Str × NameKind)} (hs : c.ns = ns) (hk : ns.lookup (Str.ofString "as_complex") = some .globalImplicit) : Ev c ρ (.Name (Str.ofString "as_complex") pos) (some (.val (.ref 237))) := Ev.fn hs hk g_as_complex
theorem g_same_complex (P : Params) : nsIn (Ks P) mainGlobals (Str.ofString "same_complex") = some (some (.ref 244)) := by kernel_rfl
theorem e_same_complex {c : Cx} {ρ : List (Str × D)} {pos : Pos} {ns : List (Str × NameKind)} (hs : c.ns = ns) (hk : ns.lookup (Str.ofString "same_complex") = some .globalImplicit) : Ev c ρ (.Name (Str.ofString "same_complex") pos) (some (.val (.ref 244))) := Ev.fn hs hk g_same_complex
theorem g_cut_real (P : Params) : nsIn (Ks P) mainGlobals (Str.ofString "cut_real") = some (some (.ref 251)) := by kernel_rfl
theorem e_cut_real {c : Cx} {ρ : List (Str × D)} {pos : Pos} {ns : List (Str × NameKind)} (hs : c.ns = ns) (hk : ns.lookup (Str.ofString "cut_real") = some .globalImplicit) : Ev c ρ (.Name (Str.ofString "cut_real") pos) (some (.val (.ref 251))) := Ev.fn hs hk g_cut_real
theorem g_near_real (P : Params) : nsIn (Ks P) mainGlobals (Str.ofString "near_real") = some (some (.ref 258)) := by kernel_rfl
theorem e_near_real {c : Cx} {ρ : List (Str × D)} {pos : Pos} {ns : List (Str × NameKind)} (hs : c.ns = ns) (hk : ns.lookup (Str.ofString "near_real") = some .globalImplicit) : Ev c ρ (.Name (Str.ofString "near_real") pos) (some (.val (.ref 258))) := Ev.fn hs hk g_near_real
theorem g_near_int (P : Params) : nsIn (Ks P) mainGlobals (Str.ofString "near_int") = some (some (.ref 265)) := by kernel_rfl
theorem e_near_int {c : Cx} {ρ : List (Str × D)} {pos : Pos} {ns : List (Str × NameKind)} (hs : c.ns = ns) (hk : ns.lookup (Str.ofString "near_int") = some .globalImplicit) : Ev c ρ (.Name (Str.ofString "near_int") pos) (some (.val (.ref 265))) := Ev.fn hs hk g_near_int
theorem g_without_sign (P : Params) : nsIn (Ks P) mainGlobals (Str.ofString "without_sign") = some (some (.ref 272)) := by kernel_rfl
theorem e_without_sign {c : Cx} {ρ : List (Str × D)} {pos : Pos} {ns : List (Str × NameKind)} (hs : c.ns = ns) (hk : ns.lookup (Str.ofString "without_sign") = some .globalImplicit) : Ev c ρ (.Name (Str.ofString "without_sign") pos) (some (.val (.ref 272))) := Ev.fn hs hk g_without_sign
theorem g_rest_of (P : Params) : nsIn (Ks P) mainGlobals (Str.ofString "rest_of") = some (some (.ref 279)) := by kernel_rfl
theorem e_rest_of {c : Cx} {ρ : List (Str × D)} {pos : Pos} {ns : List (Str × NameKind)} (hs : c.ns = ns) (hk : ns.lookup (Str.ofString "rest_of") = some .globalImplicit) : Ev c ρ (.Name (Str.ofString "rest_of") pos) (some (.val (.ref 279))) := Ev.fn hs hk g_rest_of
theorem g_with_sign (P : Params) : nsIn (Ks P) mainGlobals (Str.ofString "with_sign") = some (some (.ref 286)) := by kernel_rfl
theorem e_with_sign {c : Cx} {ρ : List (Str × D)} {pos : Pos} {ns : List (Str × NameKind)} (hs : c.ns = ns) (hk : ns.lookup (Str.ofString "with_sign") = some .globalImplicit) : Ev c ρ (.Name (Str.ofString "with_sign") pos) (some (.val (.ref 286))) := Ev.fn hs hk g_with_sign
theorem g_compare_numbers (P : Params) : nsIn (Ks P) mainGlobals (Str.ofString "compare_numbers") = some (some (.ref 293)) := by kernel_rfl
theorem e_compare_numbers {c : Cx} {ρ : List (Str × D)} {pos : Pos} {ns : List (Str × NameKind)} (hs : c.ns = ns) (hk : ns.lookup (Str.ofString "compare_numbers") = some .globalImplicit) : Ev c ρ (.Name (Str.ofString "compare_numbers") pos) (some (.val (.ref 293))) := Ev.fn hs hk g_compare_numbers
theorem g_difference (P : Params) : nsIn (Ks P) mainGlobals (Str.ofString "difference") = some (some (.ref 300)) := by kernel_rfl
theorem e_difference {c : Cx} {ρ : List (Str × D)} {pos : Pos} {ns : List (Str × NameKind)} (hs : c.ns = ns) (hk : ns.lookup (Str.ofString "difference") = some .globalImplicit) : Ev c ρ (.Name (Str.ofString "difference") pos) (some (.val (.ref 300))) := Ev.fn hs hk g_difference
theorem g_double_product (P : Params) : nsIn (Ks P) mainGlobals (Str.ofString "double_product") = some (some (.ref 307)) := by kernel_rfl
theorem e_double_product {c : Cx} {ρ : List (Str × D)} {pos : Pos} {ns : List (Str × NameKind)} (hs : c.ns = ns) (hk : ns.lookup (Str.ofString "double_product") = some .globalImplicit) : Ev c ρ (.Name (Str.ofString "double_product") pos) (some (.val (.ref 307))) := Ev.fn hs hk g_double_product
theorem g_extreme (P : Params) : nsIn (Ks P) mainGlobals (Str.ofString "extreme") = some (some (.ref 314)) := by kernel_rfl
theorem e_extreme {c : Cx} {ρ : List (Str × D)} {pos : Pos} {ns : List (Str × NameKind)} (hs : c.ns = ns) (hk : ns.lookup (Str.ofString "extreme") = some .globalImplicit) : Ev c ρ (.Name (Str.ofString "extreme") pos) (some (.val (.ref 314))) := Ev.fn hs hk g_extreme
theorem g_greatest (P : Params) : nsIn (Ks P) mainGlobals (Str.ofString "greatest") = some (some (.ref 321)) := by kernel_rfl
theorem e_greatest {c : Cx} {ρ : List (Str × D)} {pos : Pos} {ns : List (Str × NameKind)} (hs : c.ns = ns) (hk : ns.lookup (Str.ofString "greatest") = some .globalImplicit) : Ev c ρ (.Name (Str.ofString "greatest") pos) (some (.val (.ref 321))) := Ev.fn hs hk g_greatest
theorem g_least (P : Params) : nsIn (Ks P) mainGlobals (Str.ofString "least") = some (some (.ref 328)) := by kernel_rfl
theorem e_least {c : Cx} {ρ : List (Str × D)} {pos : Pos} {ns : List (Str × NameKind)} (hs : c.ns = ns) (hk : ns.lookup (Str.ofString "least") = some .globalImplicit) : Ev c ρ (.Name (Str.ofString "least") pos) (some (.val (.ref 328))) := Ev.fn hs hk g_least
theorem g_greatest_as_real (P : Params) : nsIn (Ks P) mainGlobals (Str.ofString "greatest_as_real") = some (some (.ref 335)) := by kernel_rfl
theorem e_greatest_as_real {c : Cx} {ρ : List (Str × D)} {pos : Pos} {ns : List (Str × NameKind)} (hs : c.ns = ns) (hk : ns.lookup (Str.ofString "greatest_as_real") = some .globalImplicit) : Ev c ρ (.Name (Str.ofString "greatest_as_real") pos) (some (.val (.ref 335))) := Ev.fn hs hk g_greatest_as_real
theorem g_least_as_real (P : Params) : nsIn (Ks P) mainGlobals (Str.ofString "least_as_real") = some (some (.ref 342)) := by kernel_rfl
theorem e_least_as_real {c : Cx} {ρ : List (Str × D)} {pos : Pos} {ns : List (Str × NameKind)} (hs : c.ns = ns) (hk : ns.lookup (Str.ofString "least_as_real") = some .globalImplicit) : Ev c ρ (.Name (Str.ofString "least_as_real") pos) (some (.val (.ref 342))) := Ev.fn hs hk g_least_as_real
theorem g_greatest_as_int (P : Params) : nsIn (Ks P) mainGlobals (Str.ofString "greatest_as_int") = some (some (.ref 349)) := by kernel_rfl
theorem e_greatest_as_int {c : Cx} {ρ : List (Str × D)} {pos : Pos} {ns : List (Str × NameKind)} (hs : c.ns = ns) (hk : ns.lookup (Str.ofString "greatest_as_int") = some .globalImplicit) : Ev c ρ (.Name (Str.ofString "greatest_as_int") pos) (some (.val (.ref 349))) := Ev.fn hs hk g_greatest_as_int
theorem g_least_as_int (P : Params) : nsIn (Ks P) mainGlobals (Str.ofString "least_as_int") = some (some (.ref 356)) := by kernel_rfl
theorem e_least_as_int {c : Cx} {ρ : List (Str × D)} {pos : Pos} {ns : List (Str × NameKind)} (hs : c.ns = ns) (hk : ns.lookup (Str.ofString "least_as_int") = some .globalImplicit) : Ev c ρ (.Name (Str.ofString "least_as_int") pos) (some (.val (.ref 356))) := Ev.fn hs hk g_least_as_int
theorem g_second_part (P : Params) : nsIn (Ks P) mainGlobals (Str.ofString "second_part") = some (some (.ref 363)) := by kernel_rfl
theorem e_second_part {c : Cx} {ρ : List (Str × D)} {pos : Pos} {ns : List (Str × NameKind)} (hs : c.ns = ns) (hk : ns.lookup (Str.ofString "second_part") = some .globalImplicit) : Ev c ρ (.Name (Str.ofString "second_part") pos) (some (.val (.ref 363))) := Ev.fn hs hk g_second_part
theorem g_conjugate (P : Params) : nsIn (Ks P) mainGlobals (Str.ofString "conjugate") = some (some (.ref 370)) := by kernel_rfl
theorem e_conjugate {c : Cx} {ρ : List (Str × D)} {pos : Pos} {ns : List (Str × NameKind)} (hs : c.ns = ns) (hk : ns.lookup (Str.ofString "conjugate") = some .globalImplicit) : Ev c ρ (.Name (Str.ofString "conjugate") pos) (some (.val (.ref 370))) := Ev.fn hs hk g_conjugate
theorem g_number_operations (P : Params) : nsIn (Ks P) mainGlobals (Str.ofString "number_operations") = some (some (.ref 377)) := by kernel_rfl
theorem e_number_operations {c : Cx} {ρ : List (Str × D)} {pos : Pos} {ns : List (Str × NameKind)} (hs : c.ns = ns) (hk : ns.lookup (Str.ofString "number_operations") = some .globalImplicit) : Ev c ρ (.Name (Str.ofString "number_operations") pos) (some (.val (.ref 377))) := Ev.fn hs hk g_number_operations
theorem g_code_of (P : Params) : nsIn (Ks P) mainGlobals (Str.ofString "code_of") = some (some (.ref 384)) := by kernel_rfl
theorem e_code_of {c : Cx} {ρ : List (Str × D)} {pos : Pos} {ns : List (Str × NameKind)} (hs : c.ns = ns) (hk : ns.lookup (Str.ofString "code_of") = some .globalImplicit) : Ev c ρ (.Name (Str.ofString "code_of") pos) (some (.val (.ref 384))) := Ev.fn hs hk g_code_of
theorem g_sign_of_code (P : Params) : nsIn (Ks P) mainGlobals (Str.ofString "sign_of_code") = some (some (.ref 391)) := by kernel_rfl
theorem e_sign_of_code {c : Cx} {ρ : List (Str × D)} {pos : Pos} {ns : List (Str × NameKind)} (hs : c.ns = ns) (hk : ns.lookup (Str.ofString "sign_of_code") = some .globalImplicit) : Ev c ρ (.Name (Str.ofString "sign_of_code") pos) (some (.val (.ref 391))) := Ev.fn hs hk g_sign_of_code
theorem g_length_of (P : Params) : nsIn (Ks P) mainGlobals (Str.ofString "length_of") = some (some (.ref 398)) := by kernel_rfl
theorem e_length_of {c : Cx} {ρ : List (Str × D)} {pos : Pos} {ns : List (Str × NameKind)} (hs : c.ns = ns) (hk : ns.lookup (Str.ofString "length_of") = some .globalImplicit) : Ev c ρ (.Name (Str.ofString "length_of") pos) (some (.val (.ref 398))) := Ev.fn hs hk g_length_of
theorem g_place_of_text (P : Params) : nsIn (Ks P) mainGlobals (Str.ofString "place_of_text") = some (some (.ref 405)) := by kernel_rfl
theorem e_place_of_text {c : Cx} {ρ : List (Str × D)} {pos : Pos} {ns : List (Str × NameKind)} (hs : c.ns = ns) (hk : ns.lookup (Str.ofString "place_of_text") = some .globalImplicit) : Ev c ρ (.Name (Str.ofString "place_of_text") pos) (some (.val (.ref 405))) := Ev.fn hs hk g_place_of_text
theorem g_is_not_below (P : Params) : nsIn (Ks P) mainGlobals (Str.ofString "is_not_below") = some (some (.ref 412)) := by kernel_rfl
theorem e_is_not_below {c : Cx} {ρ : List (Str × D)} {pos : Pos} {ns : List (Str × NameKind)} (hs : c.ns = ns) (hk : ns.lookup (Str.ofString "is_not_below") = some .globalImplicit) : Ev c ρ (.Name (Str.ofString "is_not_below") pos) (some (.val (.ref 412))) := Ev.fn hs hk g_is_not_below
theorem g_is_above (P : Params) : nsIn (Ks P) mainGlobals (Str.ofString "is_above") = some (some (.ref 419)) := by kernel_rfl
theorem e_is_above {c : Cx} {ρ : List (Str × D)} {pos : Pos} {ns : List (Str × NameKind)} (hs : c.ns = ns) (hk : ns.lookup (Str.ofString "is_above") = some .globalImplicit) : Ev c ρ (.Name (Str.ofString "is_above") pos) (some (.val (.ref 419))) := Ev.fn hs hk g_is_above
theorem g_is_not_above (P : Params) : nsIn (Ks P) mainGlobals (Str.ofString "is_not_above") = some (some (.ref 426)) := by kernel_rfl
theorem e_is_not_above {c : Cx} {ρ : List (Str × D)} {pos : Pos} {ns : List (Str × NameKind)} (hs : c.ns = ns) (hk : ns.lookup (Str.ofString "is_not_above") = some .globalImplicit) : Ev c ρ (.Name (Str.ofString "is_not_above") pos) (some (.val (.ref 426))) := Ev.fn hs hk g_is_not_above
theorem g_is_below (P : Params) : nsIn (Ks P) mainGlobals (Str.ofString "is_below") = some (some (.ref 433)) := by kernel_rfl
theorem e_is_below {c : Cx} {ρ : List (Str × D)} {pos : Pos} {ns : List (Str × NameKind)} (hs : c.ns = ns) (hk : ns.lookup (Str.ofString "is_below") = some .globalImplicit) : Ev c ρ (.Name (Str.ofString "is_below") pos) (some (.val (.ref 433))) := Ev.fn hs hk g_is_below
theorem g_text_operations (P : Params) : nsIn (Ks P) mainGlobals (Str.ofString "text_operations") = some (some (.ref 440)) := by kernel_rfl
theorem e_text_operations {c : Cx} {ρ : List (Str × D)} {pos : Pos} {ns : List (Str × NameKind)} (hs : c.ns = ns) (hk : ns.lookup (Str.ofString "text_operations") = some .globalImplicit) : Ev c ρ (.Name (Str.ofString "text_operations") pos) (some (.val (.ref 440))) := Ev.fn hs hk g_text_operations
theorem g_law_one (P : Params) : nsIn (Ks P) mainGlobals (Str.ofString "_law_one") = some (some (.ref 447)) := by kernel_rfl
theorem e_law_one {c : Cx} {ρ : List (Str × D)} {pos : Pos} {ns : List (Str × NameKind)} (hs : c.ns = ns) (hk : ns.lookup (Str.ofString "_law_one") = some .globalImplicit) : Ev c ρ (.Name (Str.ofString "_law_one") pos) (some (.val (.ref 447))) := Ev.fn hs hk g_law_one
theorem g_law_rows (P : Params) : nsIn (Ks P) mainGlobals (Str.ofString "_law_rows") = some (some (.ref 454)) := by kernel_rfl
theorem e_law_rows {c : Cx} {ρ : List (Str × D)} {pos : Pos} {ns : List (Str × NameKind)} (hs : c.ns = ns) (hk : ns.lookup (Str.ofString "_law_rows") = some .globalImplicit) : Ev c ρ (.Name (Str.ofString "_law_rows") pos) (some (.val (.ref 454))) := Ev.fn hs hk g_law_rows
theorem g_law_told (P : Params) : nsIn (Ks P) mainGlobals (Str.ofString "_law_told") = some (some (.ref 461)) := by kernel_rfl
theorem e_law_told {c : Cx} {ρ : List (Str × D)} {pos : Pos} {ns : List (Str × NameKind)} (hs : c.ns = ns) (hk : ns.lookup (Str.ofString "_law_told") = some .globalImplicit) : Ev c ρ (.Name (Str.ofString "_law_told") pos) (some (.val (.ref 461))) := Ev.fn hs hk g_law_told
theorem g_law_fixed (P : Params) : nsIn (Ks P) mainGlobals (Str.ofString "_law_fixed") = some (some (.ref 468)) := by kernel_rfl
theorem e_law_fixed {c : Cx} {ρ : List (Str × D)} {pos : Pos} {ns : List (Str × NameKind)} (hs : c.ns = ns) (hk : ns.lookup (Str.ofString "_law_fixed") = some .globalImplicit) : Ev c ρ (.Name (Str.ofString "_law_fixed") pos) (some (.val (.ref 468))) := Ev.fn hs hk g_law_fixed
theorem g_law_cut (P : Params) : nsIn (Ks P) mainGlobals (Str.ofString "_law_cut") = some (some (.ref 475)) := by kernel_rfl
theorem e_law_cut {c : Cx} {ρ : List (Str × D)} {pos : Pos} {ns : List (Str × NameKind)} (hs : c.ns = ns) (hk : ns.lookup (Str.ofString "_law_cut") = some .globalImplicit) : Ev c ρ (.Name (Str.ofString "_law_cut") pos) (some (.val (.ref 475))) := Ev.fn hs hk g_law_cut
theorem g_law_int (P : Params) : nsIn (Ks P) mainGlobals (Str.ofString "_law_int") = some (some (.ref 482)) := by kernel_rfl
theorem e_law_int {c : Cx} {ρ : List (Str × D)} {pos : Pos} {ns : List (Str × NameKind)} (hs : c.ns = ns) (hk : ns.lookup (Str.ofString "_law_int") = some .globalImplicit) : Ev c ρ (.Name (Str.ofString "_law_int") pos) (some (.val (.ref 482))) := Ev.fn hs hk g_law_int
theorem g_law_value (P : Params) : nsIn (Ks P) mainGlobals (Str.ofString "_law_value") = some (some (.ref 487)) := by kernel_rfl
theorem e_law_value {c : Cx} {ρ : List (Str × D)} {pos : Pos} {ns : List (Str × NameKind)} (hs : c.ns = ns) (hk : ns.lookup (Str.ofString "_law_value") = some .globalImplicit) : Ev c ρ (.Name (Str.ofString "_law_value") pos) (some (.val (.ref 487))) := Ev.fn hs hk g_law_value
theorem g_law_whole (P : Params) : nsIn (Ks P) mainGlobals (Str.ofString "_law_whole") = some (some (.ref 494)) := by kernel_rfl
theorem e_law_whole {c : Cx} {ρ : List (Str × D)} {pos : Pos} {ns : List (Str × NameKind)} (hs : c.ns = ns) (hk : ns.lookup (Str.ofString "_law_whole") = some .globalImplicit) : Ev c ρ (.Name (Str.ofString "_law_whole") pos) (some (.val (.ref 494))) := Ev.fn hs hk g_law_whole
theorem g_law_padded (P : Params) : nsIn (Ks P) mainGlobals (Str.ofString "_law_padded") = some (some (.ref 499)) := by kernel_rfl
theorem e_law_padded {c : Cx} {ρ : List (Str × D)} {pos : Pos} {ns : List (Str × NameKind)} (hs : c.ns = ns) (hk : ns.lookup (Str.ofString "_law_padded") = some .globalImplicit) : Ev c ρ (.Name (Str.ofString "_law_padded") pos) (some (.val (.ref 499))) := Ev.fn hs hk g_law_padded
theorem g_law_text_due (P : Params) : nsIn (Ks P) mainGlobals (Str.ofString "_law_text_due") = some (some (.ref 504)) := by kernel_rfl
theorem e_law_text_due {c : Cx} {ρ : List (Str × D)} {pos : Pos} {ns : List (Str × NameKind)} (hs : c.ns = ns) (hk : ns.lookup (Str.ofString "_law_text_due") = some .globalImplicit) : Ev c ρ (.Name (Str.ofString "_law_text_due") pos) (some (.val (.ref 504))) := Ev.fn hs hk g_law_text_due
theorem g_law_number_due (P : Params) : nsIn (Ks P) mainGlobals (Str.ofString "_law_number_due") = some (some (.ref 511)) := by kernel_rfl
theorem e_law_number_due {c : Cx} {ρ : List (Str × D)} {pos : Pos} {ns : List (Str × NameKind)} (hs : c.ns = ns) (hk : ns.lookup (Str.ofString "_law_number_due") = some .globalImplicit) : Ev c ρ (.Name (Str.ofString "_law_number_due") pos) (some (.val (.ref 511))) := Ev.fn hs hk g_law_number_due
theorem g_law_extreme (P : Params) : nsIn (Ks P) mainGlobals (Str.ofString "_law_extreme") = some (some (.ref 516)) := by kernel_rfl
theorem e_law_extreme {c : Cx} {ρ : List (Str × D)} {pos : Pos} {ns : List (Str × NameKind)} (hs : c.ns = ns) (hk : ns.lookup (Str.ofString "_law_extreme") = some .globalImplicit) : Ev c ρ (.Name (Str.ofString "_law_extreme") pos) (some (.val (.ref 516))) := Ev.fn hs hk g_law_extreme
theorem g_law_due (P : Params) : nsIn (Ks P) mainGlobals (Str.ofString "_law_due") = some (some (.ref 521)) := by kernel_rfl
theorem e_law_due {c : Cx} {ρ : List (Str × D)} {pos : Pos} {ns : List (Str × NameKind)} (hs : c.ns = ns) (hk : ns.lookup (Str.ofString "_law_due") = some .globalImplicit) : Ev c ρ (.Name (Str.ofString "_law_due") pos) (some (.val (.ref 521))) := Ev.fn hs hk g_law_due
theorem g_law (P : Params) : nsIn (Ks P) mainGlobals (Str.ofString "law") = some (some (.ref 526)) := by kernel_rfl
theorem e_law {c : Cx} {ρ : List (Str × D)} {pos : Pos} {ns : List (Str × NameKind)} (hs : c.ns = ns) (hk : ns.lookup (Str.ofString "law") = some .globalImplicit) : Ev c ρ (.Name (Str.ofString "law") pos) (some (.val (.ref 526))) := Ev.fn hs hk g_law
theorem g_RunFault (P : Params) : nsIn (Ks P) mainGlobals (Str.ofString "RunFault") = some (some (.ref 44)) := by kernel_rfl
theorem e_RunFault {c : Cx} {ρ : List (Str × D)} {pos : Pos} {ns : List (Str × NameKind)} (hs : c.ns = ns) (hk : ns.lookup (Str.ofString "RunFault") = some .globalImplicit) : Ev c ρ (.Name (Str.ofString "RunFault") pos) (some (.val (.ref 44))) := Ev.fn hs hk g_RunFault
theorem g_Limits (P : Params) : nsIn (Ks P) mainGlobals (Str.ofString "Limits") = some (some (.ref 71)) := by kernel_rfl
theorem e_Limits {c : Cx} {ρ : List (Str × D)} {pos : Pos} {ns : List (Str × NameKind)} (hs : c.ns = ns) (hk : ns.lookup (Str.ofString "Limits") = some .globalImplicit) : Ev c ρ (.Name (Str.ofString "Limits") pos) (some (.val (.ref 71))) := Ev.fn hs hk g_Limits
theorem g_abs (P : Params) : nsIn (Ks P) mainGlobals (Str.ofString "abs") = some none := by kernel_rfl
theorem e_abs {c : Cx} {ρ : List (Str × D)} {pos : Pos} {ns : List (Str × NameKind)} (hs : c.ns = ns) (hk : ns.lookup (Str.ofString "abs") = some .globalImplicit) : Ev c ρ (.Name (Str.ofString "abs") pos) (some (.val (.builtin "abs"))) := Ev.boot hs hk g_abs PyProof.Rows.Boot.«abs» (by decide +kernel) (by decide +kernel)
theorem g_max (P : Params) : nsIn (Ks P) mainGlobals (Str.ofString "max") = some none := by kernel_rfl
theorem e_max {c : Cx} {ρ : List (Str × D)} {pos : Pos} {ns : List (Str × NameKind)} (hs : c.ns = ns) (hk : ns.lookup (Str.ofString "max") = some .globalImplicit) : Ev c ρ (.Name (Str.ofString "max") pos) (some (.val (.builtin "max"))) := Ev.boot hs hk g_max PyProof.Rows.Boot.«max» (by decide +kernel) (by decide +kernel)
theorem g_min (P : Params) : nsIn (Ks P) mainGlobals (Str.ofString "min") = some none := by kernel_rfl
theorem e_min {c : Cx} {ρ : List (Str × D)} {pos : Pos} {ns : List (Str × NameKind)} (hs : c.ns = ns) (hk : ns.lookup (Str.ofString "min") = some .globalImplicit) : Ev c ρ (.Name (Str.ofString "min") pos) (some (.val (.builtin "min"))) := Ev.boot hs hk g_min PyProof.Rows.Boot.«min» (by decide +kernel) (by decide +kernel)
theorem g_divmod (P : Params) : nsIn (Ks P) mainGlobals (Str.ofString "divmod") = some none := by kernel_rfl
theorem e_divmod {c : Cx} {ρ : List (Str × D)} {pos : Pos} {ns : List (Str × NameKind)} (hs : c.ns = ns) (hk : ns.lookup (Str.ofString "divmod") = some .globalImplicit) : Ev c ρ (.Name (Str.ofString "divmod") pos) (some (.val (.builtin "divmod"))) := Ev.boot hs hk g_divmod PyProof.Rows.Boot.«divmod» (by decide +kernel) (by decide +kernel)
theorem g_len (P : Params) : nsIn (Ks P) mainGlobals (Str.ofString "len") = some none := by kernel_rfl
theorem e_len {c : Cx} {ρ : List (Str × D)} {pos : Pos} {ns : List (Str × NameKind)} (hs : c.ns = ns) (hk : ns.lookup (Str.ofString "len") = some .globalImplicit) : Ev c ρ (.Name (Str.ofString "len") pos) (some (.val (.builtin "len"))) := Ev.boot hs hk g_len PyProof.Rows.Boot.«len» (by decide +kernel) (by decide +kernel)
theorem g_ord (P : Params) : nsIn (Ks P) mainGlobals (Str.ofString "ord") = some none := by kernel_rfl
theorem e_ord {c : Cx} {ρ : List (Str × D)} {pos : Pos} {ns : List (Str × NameKind)} (hs : c.ns = ns) (hk : ns.lookup (Str.ofString "ord") = some .globalImplicit) : Ev c ρ (.Name (Str.ofString "ord") pos) (some (.val (.builtin "ord"))) := Ev.boot hs hk g_ord PyProof.Rows.Boot.«ord» (by decide +kernel) (by decide +kernel)
theorem g_chr (P : Params) : nsIn (Ks P) mainGlobals (Str.ofString "chr") = some none := by kernel_rfl
theorem e_chr {c : Cx} {ρ : List (Str × D)} {pos : Pos} {ns : List (Str × NameKind)} (hs : c.ns = ns) (hk : ns.lookup (Str.ofString "chr") = some .globalImplicit) : Ev c ρ (.Name (Str.ofString "chr") pos) (some (.val (.builtin "chr"))) := Ev.boot hs hk g_chr PyProof.Rows.Boot.«chr» (by decide +kernel) (by decide +kernel)
theorem g_str (P : Params) : nsIn (Ks P) mainGlobals (Str.ofString "str") = some none := by kernel_rfl
theorem e_str {c : Cx} {ρ : List (Str × D)} {pos : Pos} {ns : List (Str × NameKind)} (hs : c.ns = ns) (hk : ns.lookup (Str.ofString "str") = some .globalImplicit) : Ev c ρ (.Name (Str.ofString "str") pos) (some (.val (.type "str"))) := Ev.boot hs hk g_str PyProof.Rows.Boot.«str» (by decide +kernel) (by decide +kernel)
theorem g_int (P : Params) : nsIn (Ks P) mainGlobals (Str.ofString "int") = some none := by kernel_rfl
theorem e_int {c : Cx} {ρ : List (Str × D)} {pos : Pos} {ns : List (Str × NameKind)} (hs : c.ns = ns) (hk : ns.lookup (Str.ofString "int") = some .globalImplicit) : Ev c ρ (.Name (Str.ofString "int") pos) (some (.val (.type "int"))) := Ev.boot hs hk g_int PyProof.Rows.Boot.«int» (by decide +kernel) (by decide +kernel)
theorem g_range (P : Params) : nsIn (Ks P) mainGlobals (Str.ofString "range") = some none := by kernel_rfl
theorem e_range {c : Cx} {ρ : List (Str × D)} {pos : Pos} {ns : List (Str × NameKind)} (hs : c.ns = ns) (hk : ns.lookup (Str.ofString "range") = some .globalImplicit) : Ev c ρ (.Name (Str.ofString "range") pos) (some (.val (.type "range"))) := Ev.boot hs hk g_range PyProof.Rows.Boot.«range» (by decide +kernel) (by decide +kernel)
theorem g_sorted (P : Params) : nsIn (Ks P) mainGlobals (Str.ofString "sorted") = some none := by kernel_rfl
theorem e_sorted {c : Cx} {ρ : List (Str × D)} {pos : Pos} {ns : List (Str × NameKind)} (hs : c.ns = ns) (hk : ns.lookup (Str.ofString "sorted") = some .globalImplicit) : Ev c ρ (.Name (Str.ofString "sorted") pos) (some (.val (.builtin "sorted"))) := Ev.boot hs hk g_sorted PyProof.Rows.Boot.«sorted» (by decide +kernel) (by decide +kernel)
theorem g_enumerate (P : Params) : nsIn (Ks P) mainGlobals (Str.ofString "enumerate") = some none := by kernel_rfl
theorem e_enumerate {c : Cx} {ρ : List (Str × D)} {pos : Pos} {ns : List (Str × NameKind)} (hs : c.ns = ns) (hk : ns.lookup (Str.ofString "enumerate") = some .globalImplicit) : Ev c ρ (.Name (Str.ofString "enumerate") pos) (some (.val (.type "enumerate"))) := Ev.boot hs hk g_enumerate PyProof.Rows.Boot.«enumerate» (by decide +kernel) (by decide +kernel)
theorem g_tuple (P : Params) : nsIn (Ks P) mainGlobals (Str.ofString "tuple") = some none := by kernel_rfl
theorem e_tuple {c : Cx} {ρ : List (Str × D)} {pos : Pos} {ns : List (Str × NameKind)} (hs : c.ns = ns) (hk : ns.lookup (Str.ofString "tuple") = some .globalImplicit) : Ev c ρ (.Name (Str.ofString "tuple") pos) (some (.val (.type "tuple"))) := Ev.boot hs hk g_tuple PyProof.Rows.Boot.«tuple» (by decide +kernel) (by decide +kernel)
theorem g_list (P : Params) : nsIn (Ks P) mainGlobals (Str.ofString "list") = some none := by kernel_rfl
theorem e_list {c : Cx} {ρ : List (Str × D)} {pos : Pos} {ns : List (Str × NameKind)} (hs : c.ns = ns) (hk : ns.lookup (Str.ofString "list") = some .globalImplicit) : Ev c ρ (.Name (Str.ofString "list") pos) (some (.val (.type "list"))) := Ev.boot hs hk g_list PyProof.Rows.Boot.«list» (by decide +kernel) (by decide +kernel)
theorem g_isinstance (P : Params) : nsIn (Ks P) mainGlobals (Str.ofString "isinstance") = some none := by kernel_rfl
theorem e_isinstance {c : Cx} {ρ : List (Str × D)} {pos : Pos} {ns : List (Str × NameKind)} (hs : c.ns = ns) (hk : ns.lookup (Str.ofString "isinstance") = some .globalImplicit) : Ev c ρ (.Name (Str.ofString "isinstance") pos) (some (.val (.builtin "isinstance"))) := Ev.boot hs hk g_isinstance PyProof.Rows.Boot.«isinstance» (by decide +kernel) (by decide +kernel)
theorem g_bool (P : Params) : nsIn (Ks P) mainGlobals (Str.ofString "bool") = some none := by kernel_rfl
theorem e_bool {c : Cx} {ρ : List (Str × D)} {pos : Pos} {ns : List (Str × NameKind)} (hs : c.ns = ns) (hk : ns.lookup (Str.ofString "bool") = some .globalImplicit) : Ev c ρ (.Name (Str.ofString "bool") pos) (some (.val (.type "bool"))) := Ev.boot hs hk g_bool PyProof.Rows.Boot.«bool» (by decide +kernel) (by decide +kernel)
theorem g_INTEGER : ∃ t, ∀ (P : Params), nsIn (Ks P) mainGlobals (Str.ofString "INTEGER") = some (some (.int 0 t)) := ⟨_, fun P => rfl⟩
theorem e_INTEGER {c : Cx} {ρ : List (Str × D)} {pos : Pos} {ns : List (Str × NameKind)} (hs : c.ns = ns) (hk : ns.lookup (Str.ofString "INTEGER") = some .globalImplicit) : Ev c ρ (.Name (Str.ofString "INTEGER") pos) (some (.int 0)) := let ⟨t, h⟩ := g_INTEGER; Ev.glob hs hk h (fun _ _ _ => .int _ _) rfl
theorem g_REAL : ∃ t, ∀ (P : Params), nsIn (Ks P) mainGlobals (Str.ofString "REAL") = some (some (.int 1 t)) := ⟨_, fun P => rfl⟩
theorem e_REAL {c : Cx} {ρ : List (Str × D)} {pos : Pos} {ns : List (Str × NameKind)} (hs : c.ns = ns) (hk : ns.lookup (Str.ofString "REAL") = some .globalImplicit) : Ev c ρ (.Name (Str.ofString "REAL") pos) (some (.int 1)) := let ⟨t, h⟩ := g_REAL; Ev.glob hs hk h (fun _ _ _ => .int _ _) rfl
theorem g_DOUBLE : ∃ t, ∀ (P : Params), nsIn (Ks P) mainGlobals (Str.ofString "DOUBLE") = some (some (.int 2 t)) := ⟨_, fun P => rfl⟩
theorem e_DOUBLE {c : Cx} {ρ : List (Str × D)} {pos : Pos} {ns : List (Str × NameKind)} (hs : c.ns = ns) (hk : ns.lookup (Str.ofString "DOUBLE") = some .globalImplicit) : Ev c ρ (.Name (Str.ofString "DOUBLE") pos) (some (.int 2)) := let ⟨t, h⟩ := g_DOUBLE; Ev.glob hs hk h (fun _ _ _ => .int _ _) rfl
theorem g_COMPLEX : ∃ t, ∀ (P : Params), nsIn (Ks P) mainGlobals (Str.ofString "COMPLEX") = some (some (.int 3 t)) := ⟨_, fun P => rfl⟩
theorem e_COMPLEX {c : Cx} {ρ : List (Str × D)} {pos : Pos} {ns : List (Str × NameKind)} (hs : c.ns = ns) (hk : ns.lookup (Str.ofString "COMPLEX") = some .globalImplicit) : Ev c ρ (.Name (Str.ofString "COMPLEX") pos) (some (.int 3)) := let ⟨t, h⟩ := g_COMPLEX; Ev.glob hs hk h (fun _ _ _ => .int _ _) rfl
theorem g_LOGICAL : ∃ t, ∀ (P : Params), nsIn (Ks P) mainGlobals (Str.ofString "LOGICAL") = some (some (.int 4 t)) := ⟨_, fun P => rfl⟩
theorem e_LOGICAL {c : Cx} {ρ : List (Str × D)} {pos : Pos} {ns : List (Str × NameKind)} (hs : c.ns = ns) (hk : ns.lookup (Str.ofString "LOGICAL") = some .globalImplicit) : Ev c ρ (.Name (Str.ofString "LOGICAL") pos) (some (.int 4)) := let ⟨t, h⟩ := g_LOGICAL; Ev.glob hs hk h (fun _ _ _ => .int _ _) rfl
theorem g_CHARACTER : ∃ t, ∀ (P : Params), nsIn (Ks P) mainGlobals (Str.ofString "CHARACTER") = some (some (.int 5 t)) := ⟨_, fun P => rfl⟩
theorem e_CHARACTER {c : Cx} {ρ : List (Str × D)} {pos : Pos} {ns : List (Str × NameKind)} (hs : c.ns = ns) (hk : ns.lookup (Str.ofString "CHARACTER") = some .globalImplicit) : Ev c ρ (.Name (Str.ofString "CHARACTER") pos) (some (.int 5)) := let ⟨t, h⟩ := g_CHARACTER; Ev.glob hs hk h (fun _ _ _ => .int _ _) rfl
theorem g_SIGNS : ∃ t, ∀ (P : Params), nsIn (Ks P) mainGlobals (Str.ofString "SIGNS") = some (some (.int 256 t)) := ⟨_, fun P => rfl⟩
theorem e_SIGNS {c : Cx} {ρ : List (Str × D)} {pos : Pos} {ns : List (Str × NameKind)} (hs : c.ns = ns) (hk : ns.lookup (Str.ofString "SIGNS") = some .globalImplicit) : Ev c ρ (.Name (Str.ofString "SIGNS") pos) (some (.int 256)) := let ⟨t, h⟩ := g_SIGNS; Ev.glob hs hk h (fun _ _ _ => .int _ _) rfl
theorem g_NOUGHT : ∃ a t1 t2 n sl dd, (∀ P, nsIn (Ks P) mainGlobals (Str.ofString "NOUGHT") = some (some (.ref a))) ∧ ∀ P, (Ks P).lookup a = some ⟨.type "tuple", dd, .seq #[.int 0 t1, .int 0 t2] n, sl⟩ := ⟨_, _, _, _, _, _, fun P => rfl, fun P => rfl⟩
theorem e_NOUGHT {c : Cx} {ρ : List (Str × D)} {pos : Pos} {ns : List (Str × NameKind)} (hs : c.ns = ns) (hk : ns.lookup (Str.ofString "NOUGHT") = some .globalImplicit) : Ev c ρ (.Name (Str.ofString "NOUGHT") pos) (some (.tup [.int 0, .int 0])) := by
  obtain ⟨a, t1, t2, n, sl, dd, h1, h2⟩ := g_NOUGHT
  exact Ev.glob hs hk h1 (fun P h X => .tup (X a _ (h2 P)) rfl rfl (.cons (.int _ _) (.cons (.int _ _) .nil))) rfl
theorem e_width {c : Cx} {ρ : List (Str × D)} {v : Expr} {pos : Pos} {wd : Int} (h : Ev c ρ v (some (.lim wd))) (he : autoParam (∀ env, eval (.Attribute v (Str.ofString "width") pos) env = (do
      let o ← eval v env
      standAt pos.atName
      let r ← holding [o] (getAttr o (Str.ofString "width") true)
      letTemporaryGo v o r
      pure r)) aiIwu) : Ev c ρ (.Attribute v (Str.ofString "width") pos) (some (.int wd)) := Ev.attr h (.inl ⟨rfl, rfl⟩) (fun _ => by kernel_rfl) (fun _ => by kernel_rfl) (fun _ => by kernel_rfl) (fun _ => by kernel_rfl) he
theorem e_real_digits {c : Cx} {ρ : List (Str × D)} {v : Expr} {pos : Pos} {wd : Int} (h : Ev c ρ v (some (.lim wd))) (he : autoParam (∀ env, eval (.Attribute v (Str.ofString "real_digits") pos) env = (do
      let o ← eval v env
      standAt pos.atName
      let r ← holding [o] (getAttr o (Str.ofString "real_digits") true)
      letTemporaryGo v o r
      pure r)) aiIwu) : Ev c ρ (.Attribute v (Str.ofString "real_digits") pos) (some (.int 4)) := Ev.attr h (.inr (.inl ⟨rfl, rfl⟩)) (fun _ => by kernel_rfl) (fun _ => by kernel_rfl) (fun _ => by kernel_rfl) (fun _ => by kernel_rfl) he
theorem e_double_digits {c : Cx} {ρ : List (Str × D)} {v : Expr} {pos : Pos} {wd : Int} (h : Ev c ρ v (some (.lim wd))) (he : autoParam (∀ env, eval (.Attribute v (Str.ofString "double_digits") pos) env = (do
      let o ← eval v env
      standAt pos.atName
      let r ← holding [o] (getAttr o (Str.ofString "double_digits") true)
      letTemporaryGo v o r
      pure r)) aiIwu) : Ev c ρ (.Attribute v (Str.ofString "double_digits") pos) (some (.int 9)) := Ev.attr h (.inr (.inr (.inl ⟨rfl, rfl⟩))) (fun _ => by kernel_rfl) (fun _ => by kernel_rfl) (fun _ => by kernel_rfl) (fun _ => by kernel_rfl) he
theorem e_top_exponent {c : Cx} {ρ : List (Str × D)} {v : Expr} {pos : Pos} {wd : Int} (h : Ev c ρ v (some (.lim wd))) (he : autoParam (∀ env, eval (.Attribute v (Str.ofString "top_exponent") pos) env = (do
      let o ← eval v env
      standAt pos.atName
      let r ← holding [o] (getAttr o (Str.ofString "top_exponent") true)
      letTemporaryGo v o r
      pure r)) aiIwu) : Ev c ρ (.Attribute v (Str.ofString "top_exponent") pos) (some (.int 30)) := Ev.attr h (.inr (.inr (.inr ⟨rfl, rfl⟩))) (fun _ => by kernel_rfl) (fun _ => by kernel_rfl) (fun _ => by kernel_rfl) (fun _ => by kernel_rfl) he
end Mine
end
section
open PySem PySem.W PySem.Calls PyProof.Rows
set_option Elab.async false
set_option maxRecDepth 100000
set_option linter.unusedVariables false
namespace Mine
noncomputable
abbrev bm44 : List Value := [.ref 31, .type "Exception", .type "BaseException", .type "object"]
noncomputable
abbrev cls44 : Obj := excClassObj (Str.ofString "RunFault") (Str.ofString "RunFault") 44 43 [.ref 31] bm44 true [] [] false none none (some (.ref 35)) none (some (.str (Str.ofString "RunFault") 218)) (some (.str (Str.ofString "RunFault") 226)) (some (.bool true)) "Exception.__new__"
noncomputable
abbrev exObj (t : Addr) : Obj := { cls := .ref 44, data := .fields #[.ref t, .none, .none, .none, .bool false, .none] }
noncomputable
abbrev tupObj (vs : List Value) : Obj := { cls := .type "tuple", data := .seq vs.toArray }
theorem at44 {P : Params} {h : Heap} (X : (Ks P).In h) : h.get? 44 = some cls44 := X _ _ rfl
section
variable {M : Model} {A : Around} {E : Value → Shared → Prop} {h : Heap} {g : Array GenState} {d : Drawn} {t : Nat} {os : OsState}
theorem rf_new_check {rest : List Value} {Q : Unit → Shared → Prop} (hC : h.get? 44 = some cls44) (hq : Q () ⟨h, g, d, t, os⟩) : wpAny M A (checkBuiltinCall "Exception.__new__" ⟨.ref 44 :: rest, []⟩) Q E ⟨h, g, d, t, os⟩ := by
  have F := PySem.F.excBase_Exception
  have hcont : (Value.ref 44 :: bm44).contains (.type "Exception") = true := by decide +kernel
  have hstar := F.noStar
  simp only [checkBuiltinCall, F.newKind, F.newSplit, F.newRow]
  repeat (first | refine wpAny_loadPart_at hC ?_ | (refine wpAny_isSubtype_exc hC ?_; rw [hcont]) | refine wpAny_staticBase_exc hC ?_ | refine wpAny_madeBy_exc hC ?_ | simp only [bne_self_eq_false, Bool.false_eq_true, if_false] | wp_step)
  exact hq
end
section
variable {w : World} {A : Around} {E : Value → Shared → Prop} {R : Result → Shared → Prop} {h : Heap} {g : Array GenState} {d : Drawn} {t : Nat} {os : OsState}
theorem rf_new {rest : List Value} (hC : h.get? 44 = some cls44) (hrest : rest.length ≤ sizeLine)
    (hq : R (.ok (.ret (.ref (h.objs.size + 1)))) ⟨(h.push (tupObj rest)).push (exObj h.objs.size), g, d, t, os⟩) :
    codeAny (model P0 w) A (.builtin "Exception.__new__" ⟨.ref 44 :: rest, []⟩) R ⟨h, g, d, t, os⟩ := by
  have F := PySem.F.excBase_Exception
  have hends := F.ends
  have hcB : (Value.ref 44 :: bm44).contains (.type "Exception") = true := by decide +kernel
  have hcA : (Value.ref 44 :: bm44).contains (.type "AttributeError") = false := by decide +kernel
  have hcN : (Value.ref 44 :: bm44).contains (.type "NameError") = false := by decide +kernel
  refine codeAny_builtinAt F.entry ?_
  unfold Builtin.«BaseException.__new__»
  refine PySem.wpAt_bind ?_
  show PySem.wpAt _ _ _ (stack >>= _) _ _ _
  refine PySem.wpAt_bind (PySem.wpAt_stack fun p below => PySem.wpAt_of_wpAny ?_)
  wp_walk
  refine PySem.wpAt_of_wpAny ?_
  rw [F.owner]
  repeat (first | with_reducible refine wpAny_madeHere_exc F.canon hC ?_ | with_reducible refine wpAny_loadPart_at hC ?_ | (with_reducible refine wpAny_isSubtype_exc hC ?_; first | rw [hcB] | rw [hcA] | rw [hcN]) | wp_step)
  show R _ _
  rw [Heap.size_push]
  exact hq
theorem rf_type_call {rest : List Value} {Q : Fin → Shared → Prop} (X : (Ks w.params).In h) (hrest : rest.length ≤ sizeLine)
    (hq : ∀ h' e tup, Kp h h' → h.get? e = none → h'.get? e = some (exObj tup) → h.get? tup = none → h'.get? tup = some (tupObj rest) →
      wpAny (model P0 w) A (call (.ref 28) (.ref e :: rest)) (fun r s' => r = .none ∧ Q (.done (.ret (.ref e))) s') E ⟨h', g, d, t, os⟩) :
    wpAny (model P0 w) A (Builtin.«type.__call__» ⟨.ref 44 :: rest, []⟩) Q E ⟨h, g, d, t, os⟩ := by
  have F := PySem.F.excBase_Exception
  have hC := at44 X
  repeat (first | with_reducible refine wpAny_loadPart_at hC ?_ | with_reducible refine wpAny_madeBy_exc hC ?_ | wp_step)
  refine codeAny_call_builtin_code (Code.quiet_builtin _ F.quiet) (rf_new_check hC ?_)
  refine rf_new hC hrest ?_
  show wpAny _ _ _ _ _ _
  have kp : Kp h ((h.push (tupObj rest)).push (exObj h.objs.size)) := fun b o e => Heap.get?_push_of_some _ (Heap.get?_push_of_some _ e)
  have X₁ := X.keeps kp
  have hC₁ := at44 X₁
  have hget : ((h.push (tupObj rest)).push (exObj h.objs.size)).get? (h.objs.size + 1) = some (exObj h.objs.size) := by heap_get
  have htup : ((h.push (tupObj rest)).push (exObj h.objs.size)).get? h.objs.size = some (tupObj rest) := Heap.get?_push_of_some _ (Heap.get?_push_at rfl rfl)
  have hcC : (Value.ref 44 :: bm44).contains (.ref 44) = true := by decide +kernel
  unfold isInstance
  repeat (first | with_reducible refine wpAny_loadPart_at hget ?_ | (with_reducible refine wpAny_isSubtype_exc hC₁ ?_; rw [hcC]) | wp_step)
  show wpAny _ _ (typeLookup (.ref 44) _) _ _ _
  refine (looks_findIn X₁ (r := some (.ref 28)) (by kernel_rfl)).here ?_
  refine wpAny_holding (wpAny_bind ?_)
  refine (bind_fn X₁ _ (by kernel_rfl)).here ?_
  refine wpAny_bind (wpAny_mono (hq _ (h.objs.size + 1) _ kp (Heap.get?_none_of_le (Nat.le_succ _)) hget (Heap.get?_none_of_le (Nat.le_refl _)) htup) (fun r s' hr => ?_) fun _ _ x => x)
  obtain ⟨rfl, hQ⟩ := hr
  wp_walk
  exact hQ
theorem rf_call {rest : List Value} {Q : Value → Shared → Prop} (X : (Ks w.params).In h) (hrest : rest.length ≤ sizeLine)
    (hq : ∀ h' e tup, Kp h h' → h.get? e = none → h'.get? e = some (exObj tup) → h.get? tup = none → h'.get? tup = some (tupObj rest) →
      wpAny (model P0 w) (A.under (.builtin "type.__call__" ⟨.ref 44 :: rest, []⟩)) (call (.ref 28) (.ref e :: rest)) (fun r s' => r = .none ∧ Q (.ref e) s') E ⟨h', g, d, t, os⟩) :
    wpAny (model P0 w) A (call (.ref 44) rest) Q E ⟨h, g, d, t, os⟩ := by
  have f1 := tc_lookup
  have f2 := tc_bind (.ref 44)
  have hC := at44 X
  have hT : (⟨h, g, d, t, os⟩ : Shared).TypeIs (.ref 44) "type" := ⟨_, hC, rfl⟩
  refine wpAny_call (codeAny_of_tree ?_)
  show wpAny _ _ (callAny (.ref 44) _) _ _ _
  repeat (any_goals (first | assumption | with_reducible refine wpAny_loadPart_at hC ?_ | wp_step))
  refine ⟨rfl, ?_⟩
  refine codeAny_call_builtin_at (Code.quiet_builtin _ (by decide +kernel)) entry_typeCall (wpAny_check_type_call_sub hC (rf_type_call X hrest fun h' e tup k1 k2 k3 k4 k5 => ?_))
  exact hq h' e tup k1 k2 k3 k4 k5
end

theorem Env2.keeps {g h h' : Heap} (k : Kp h h') {a : List (Str × Value)} {b : List (Str × D)} (r : Env2 g h a b) : Env2 g h' a b :=
  Env2.rec (motive := fun a b _ => Env2 g h' a b) .nil (fun r _ i => .cons (r.keeps k) i) r
/-- a def is entered whose frame sees the heap h₀ only -/
theorem enter {w : World} {A : Around} {base h₀ : Heap} {outer : List Env} {s : Shared} {f : Addr} {o : Obj} {fd : FuncData} {body : List Stmt} {args : Args} {binds : List (Str × Value)} {ds : List (Str × D)} {n : Nat} {R : Result → Shared → Prop}
    (hA : A.handled = none) (hd : A.depth + 1 + n < recursionLimit) (hu : A.units + 3 + 10 * n + 100 < cLine) (hfr : A.frames = some outer) (hfun : h₀.FunFrames base outer) (hst : base.StaysIn h₀) (hsta : Sta w h₀) (hk : Kp h₀ s.heap)
    (ho : s.heap.get? f = some o) (hod : o.data = .func fd) (hcd : s.heap.CodeRec fd.code fd.qualname) (hbody : fd.body = .stmts body) (hbind : BindsTo s fd args binds)
    (hcell : ∀ x ∈ fd.scope.names, x.2 ≠ .cell) (hloc : ∀ x ∈ binds, fd.scope.names.lookup x.1 = some .local) (hE : Env2 h₀ s.heap binds ds) (hglob : fd.globals = mainGlobals) (hblt : fd.builtins = builtinsNs)
    (hco : fd.scope.isCoroutine = false) (hgen : fd.scope.isGenerator = false) (hki : fd.scope.kind = .function)
    (h : ∀ c : Cx, c.n = n → c.ns = fd.scope.names → c.g = h₀ → c.base = base → c.outer = outer → c.w = w → c.Ok → ∀ h₁ tk, Fm c ds.reverse h₁ → Kp s.heap h₁ →
      wpAny c.M c.A (execs body c.env) (fun f s' => R (.ok (.ret (match f with | .ret v => v | _ => .none))) s') (fun e s' => wpAny c.M c.A (leaving c.env e) (fun _ s'' => R (.error e) s'') (fun e' s'' => R (.error e') s'') s') { s with heap := h₁, toks := tk }) :
    codeAny (model P0 w) A (.call (.ref f) args) R s := by
  refine codeAny_call_def (by (first | lia | omega)) ho hod (hsta.nolimit.keeps hk) hcd hbody hbind hcell hloc (fun h₁ hns hk₁ => ?_) hco hgen hki
  let env := callEnv fd s.heap.objs.size f
  let c : Cx := ⟨w, A.deeper env, env, h₀, base, outer, n, fd.scope.names, env :: outer, false⟩
  have hsz : h₀.get? s.heap.objs.size = none := by
    cases q : h₀.get? s.heap.objs.size with
    | none => rfl
    | some o => exact absurd (Heap.lt_size (hk _ _ q)) (Nat.lt_irrefl _)
  have O : c.Ok := ⟨hki, rfl, hglob, hblt, fun _ => rfl, hA, hd, hu, Around.frames_deeper hfr, fun _ => rfl, fun _ => hfun, fun h => (nomatch h), hst, hsta, hsz⟩
  have R₁ : Env2 h₀ h₁ binds ds := hE.keeps hk₁
  refine h c rfl rfl rfl rfl rfl rfl O h₁ _ ⟨⟨_, hns, fun x d hx _ => R₁.reverse.look hx⟩, fun x d hx hc => absurd hc (fun hc => nocell_lookup hcell hc), hk.trans hk₁, fun _ x hc => absurd hc (fun hc => nocell_lookup hcell hc)⟩ hk₁
end Mine
end
section
open PySem PySem.W PySem.Calls PyProof.Rows Builtin Builtin.ObjectAttr
set_option Elab.async false
set_option maxRecDepth 100000
set_option linter.unusedVariables false
namespace Mine
theorem read_exc_init {w : World} {A : Around} {E : Value → Shared → Prop} {s : Shared} {expr : Bool} {Q : Value → Shared → Prop} (X : (Ks w.params).In s.heap) (h : Q (.builtin "Exception.__init__") { s with toks := s.toks + 1 }) :
    wpAny (model P0 w) A (getAttr (.type "Exception") "__init__" expr) Q E s := by
  refine cls_open (K := Ks w.params) (c := .type "Exception") (mc := .type "type") (hook := none) (r := .val (.builtin "Exception.__init__")) X (Looks.of_pure (by kernel_rfl)) (Looks.of_pure (by kernel_rfl)) (by kernel_rfl) (looks_hook X (by kernel_rfl)) (by kernel_rfl) (by kernel_rfl) ?_
  refine wpAny_pure ?_
  show wpAny _ _ (handedOut _) _ _ _
  rw [handedOut_of rfl]
  exact wpAny_pure h
theorem method_exc_init {w : World} {A : Around} {E : Value → Shared → Prop} {s : Shared} {pl : Sem Bool} {Q : Value × List Value → Shared → Prop} (X : (Ks w.params).In s.heap) (h : Q (.builtin "Exception.__init__", []) { s with toks := s.toks + 1 }) :
    wpAny (model P0 w) A (getMethod (.type "Exception") "__init__" pl) Q E s := by
  unfold getMethod
  have e : specialOf (.type "Exception") "__getattribute__" = pure (some (.builtin "type.__getattribute__")) := by kernel_rfl
  rw [e]
  refine wpAny_bind (wpAny_pure ?_)
  dsimp only
  rw [if_pos canon_tga]
  exact wpAny_bind (read_exc_init X (wpAny_pure h))

/-- Exception.__init__ on a fault: its fields[0] gets a new tuple -/
theorem exc_init_run {w : World} {A : Around} {E : Value → Shared → Prop} {s : Shared} {e tup : Addr} {od : Option Addr} {rest : List Value} {Q : Value → Shared → Prop} (X : (Ks w.params).In s.heap) (hrest : rest.length ≤ sizeLine)
    (he : s.heap.get? e = some { cls := .ref 44, dict := od, data := .fields #[.ref tup, .none, .none, .none, .bool false, .none] })
    (hq : ∀ h' tup', (∀ b o, b ≠ e → s.heap.get? b = some o → h'.get? b = some o) → h'.get? e = some { cls := .ref 44, dict := od, data := .fields #[.ref tup', .none, .none, .none, .bool false, .none] } → Q .none { s with heap := h' }) :
    wpAny (model P0 w) A (call (.builtin "Exception.__init__") (.ref e :: rest)) Q E s := by
  have F := PySem.F.excBase_Exception
  rcases s with ⟨h, g, d, t, os⟩
  have hC := at44 X
  have hcB : (Value.ref 44 :: bm44).contains (.type "Exception") = true := by decide +kernel
  have hshort := F.noStar
  refine wpAny_call (codeAny_call_builtin F.init.plain F.initEntry ?_)
  have chk : ∀ {Q : Unit → Shared → Prop} {A} {E : Value → Shared → Prop}, Q () ⟨h, g, d, t, os⟩ → wpAny (model P0 w) A (checkBuiltinCall "Exception.__init__" ⟨.ref e :: rest, []⟩) Q E ⟨h, g, d, t, os⟩ := by
    intro Q A E hq
    simp only [checkBuiltinCall, F.initKind, F.initSplit, F.initRow]
    repeat (first | (with_reducible refine wpAny_loadPart_at he ?_) | with_reducible refine wpAny_loadPart_at hC ?_ | (with_reducible refine wpAny_isSubtype_exc hC ?_; rw [hcB]) | wp_step)
    refine wpAny_onRaise ?_
    rw [show ∀ (a b : String) (n : Nat), Bind.check ⟨.positional, "*", "Exception", .self, [⟨"args", .varPos, false⟩]⟩ a b n (List.map (fun x => x.fst) ({ pos := Value.ref e :: rest } : Args).kw) = pure () from
      fun a b n => check_star_args _ _ _ _ _ _]
    exact wpAny_pure hq
  refine chk ?_
  wp_walk
  refine hq _ h.objs.size (fun b o hb e' => ?_) ?_
  · rw [Heap.get?_update_other _ _ (Ne.symm hb)]
    exact Heap.get?_push_of_some _ e'
  · rw [Heap.get?_update_self _ (Heap.get?_push_of_some _ he) rfl]
    rfl

theorem storeInDict_empty {M : Model} {A : Around} {E : Value → Shared → Prop} {s : Shared} {d : Addr} {n : Str} {tk : Tok} {v : Value} {Q : PySem.Fin → Shared → Prop} (hd : s.heap.get? d = some { cls := .type "dict", data := .dict #[] })
    (h : ∀ h' tk, (∀ b, b ≠ d → h'.get? b = s.heap.get? b) → Q (.done (.ret .none)) { s with heap := h', toks := tk }) : wpAny M A (storeInDict d (.str n tk) n v) Q E s := by
  have hnd : s.heap.Ns d (fun _ => none) := ⟨_, #[], _, hd, rfl, fun e he => absurd he (by simp), fun _ => rfl⟩
  unfold storeInDict newKeyGuard
  refine wpAny_bind (wpAny_pure (wpAny_bind (wpAny_nsSet1 (Heap.Ns1.of_empty hnd) fun h' hn' hs => ?_)))
  rcases hn'.count (Within.cons n v Within.nil) with ⟨oD, esD, epD, hoD, hdD, hcD⟩
  refine wpAny_bind (wpAny_lookBehind hoD (by rw [hdD]; exact pastItsLine_dict (Nat.le_trans hcD (by rw [List.length_cons, List.length_nil, sizeLine_eq]; (first | lia | omega)))) ?_)
  exact wpAny_pure (h _ _ fun b hb => hs.2 b hb)
set_option maxHeartbeats 4000000 in
/-- self.text = v on a fault without a dict -/
theorem set_text {w : World} {A : Around} {E : Value → Shared → Prop} {s : Shared} {e tup : Addr} {v : Value} {Q : Unit → Shared → Prop} (X : (Ks w.params).In s.heap)
    (he : s.heap.get? e = some (exObj tup))
    (hq : ∀ h' tk dx, (∀ b o, b ≠ e → s.heap.get? b = some o → h'.get? b = some o) → h'.get? e = some { cls := .ref 44, dict := some dx, data := .fields #[.ref tup, .none, .none, .none, .bool false, .none] } → Q () { s with heap := h', toks := tk }) :
    wpAny (model P0 w) A (setAttr (.ref e) "text" v) Q E s := by
  have I : InstAt s.heap e (exObj tup) 44 none := ⟨he, rfl, rfl, trivial⟩
  have SF := PySem.F.store_Exception
  refine set_plain X I (by kernel_rfl) ?_
  rcases s with ⟨h, g, d, t, os⟩
  have sub : Looks (model P0 w) h (isInstance (.ref e) (.type "object")) true := I.type.andThen (looks_mroIn X (by kernel_rfl))
  refine codeAny_call_builtin SF.slot.plain SF.entry (@check_slot (model P0 w) _ _ ⟨h, g, d, t + 1, os⟩ "object.__setattr__" "object" "__setattr__" (.ref e) [.str "text" t, v] [] _ SF.kind SF.split sub (SF.args (.ref e) (.str "text" t) v) ?_)
  have hm : Looks (model P0 w) h (mroOf (.ref 44)) (.ref 44 :: bm44) := ((Looks.ld (part := none) (at44 X)).andThen .now).andThen .now
  have hl : Looks (model P0 w) h (typeLookup (.ref 44) "text") none := looks_findIn X (by kernel_rfl)
  have hr : PySem.refuseLoop (.ref e) "__setattr__" (.ref 44 :: bm44) = pure () := by
    rw [refuseLoop_ref, refuseLoop_ref]
    exact SF.passes (.ref e)
  have I1 : Looks (model P0 w) h (typeOf (.ref e)) (.ref 44) := I.type
  rw [osa_eq, refuse_eq]
  refine wpAny_bind (wpAny_bind (I1.at (wpAny_bind (hm.at ?_))))
  rw [hr]
  refine wpAny_pure (wpAny_bind (I1.at (wpAny_bind (hl.at (wpAny_bind (wpAny_pure ?_))))))
  dsimp only
  unfold storeInOwnDict
  have he : h.get? e = some (exObj tup) := he
  have hC : h.get? 44 = some cls44 := at44 X
  have hx₁ : (h.push { cls := .type "dict", data := .dict #[] }).get? e = some (exObj tup) := Heap.get?_push_of_some _ he
  have hxs : e ≠ h.objs.size := Nat.ne_of_lt (Heap.lt_size he)
  have hgd : ((h.push { cls := .type "dict", data := .dict #[] }).update e fun o => { cls := o.cls, dict := some h.objs.size, data := o.data, slots := o.slots }).get? h.objs.size
      = some { cls := .type "dict", data := .dict #[] } := (Heap.get?_update_ne _ _ _ _ hxs.symm).trans (Heap.get?_push_at rfl rfl)
  repeat (first | with_reducible refine storeInDict_empty hgd (fun h' tk hs => ?_) | with_reducible refine wpAny_loadPart_at he ?_ | wp_step)
  refine hq h' tk h.objs.size (fun b o hb e' => ?_) ?_
  · exact (hs b (Nat.ne_of_lt (Heap.lt_size e'))).trans ((Heap.get?_update_ne _ _ _ _ hb).trans (Heap.get?_push_of_some _ e'))
  · exact (hs e hxs).trans (Heap.get?_update_self _ hx₁ rfl)
end Mine
end
section
open PySem PySem.W PySem.Calls PyProof.Rows
set_option Elab.async false
set_option maxRecDepth 100000
set_option linter.unusedVariables false
namespace Mine
noncomputable
abbrev exObjD (tup dx : Addr) : Obj := { cls := .ref 44, dict := some dx, data := .fields #[.ref tup, .none, .none, .none, .bool false, .none] }
theorem n_Exception : ∀ P, nsIn (Ks P) mainGlobals "Exception" = some Option.none := fun P => by kernel_rfl
/-- F77Error.__init__ -/
theorem rf_init {w : World} {A : Around} {base h₀ : Heap} {outer : List Env} {s : Shared} {e tup : Addr} {v : Value} {Q E : Value → Shared → Prop}
    (hA : A.handled = none) (hd : A.depth + 1 < recursionLimit) (hu : A.units + 103 < cLine) (hfr : A.frames = some outer) (hfun : h₀.FunFrames base outer) (hst : base.StaysIn h₀) (hsta : Sta w h₀) (hk : Kp h₀ s.heap)
    (he : s.heap.get? e = some (exObj tup)) (hen : h₀.get? e = none)
    (hq : ∀ h' tk tup dx, Kp h₀ h' → h'.get? e = some (exObjD tup dx) → Q .none { s with heap := h', toks := tk }) :
    wpAny (model P0 w) A (call (.ref 28) [.ref e, v]) Q E s := by
  have X := hsta.inK.keeps hk
  refine wpAny_call ?_
  refine enter (n := 0) (o := K28 w.params) (binds := [(Str.ofString "self", .ref e), (Str.ofString "text", v)]) (ds := [(Str.ofString "self", .val (.ref e)), (Str.ofString "text", .val v)]) hA (by (first | lia | omega)) (by (first | lia | omega)) hfr hfun hst hsta hk (X _ _ rfl) rfl (codeRec_of X (by kernel_rfl)) rfl (BindsTo.of_eq (by rfl)) (by decide) (by intro x hx; obtain rfl | hx := List.mem_cons.mp hx <;> first | rfl | (obtain rfl | hx := List.mem_cons.mp hx <;> first | rfl | cases hx))
    (.cons (.val _) (.cons (.val _) .nil)) rfl rfl rfl rfl rfl (fun c hn hs hg hb ho hw O h₁ tk F k₁ => ?_)
  subst hw
  have he₁ : h₁.get? e = some (exObj tup) := k₁ _ _ he
  have XX : ∀ h, Kp h₀ h → (Ks c.w.params).In h := fun h k => hsta.inK.keeps k
  have hcs : c.ns = (initAt 1).2.2.names := hs
  have eself : ∀ p, Ev c [(Str.ofString "text", .val v), (Str.ofString "self", .val (.ref e))] (.Name "self" p) (some (.val (.ref e))) := fun p => Ev.loc hcs rfl rfl
  have etext : ∀ p, Ev c [(Str.ofString "text", .val v), (Str.ofString "self", .val (.ref e))] (.Name "text" p) (some (.val v)) := fun p => Ev.loc hcs rfl rfl
  have eexc : ∀ p, Ev c [(Str.ofString "text", .val v), (Str.ofString "self", .val (.ref e))] (.Name "Exception" p) (some (.val (.type "Exception"))) := fun p => Ev.boot hcs rfl n_Exception rfl (by decide)
  subst hg
  have hint : interactive c.env = false := by unfold interactive; rw [O.kind]; rfl
  refine wpAny_execs_cons (wpAny_Expr (hi := hint) ?_)
  rw [arm_eval_Call]
  refine wpAny_bind ((eexc _).go1 O _ _ _ F (fun u s₂ x₂ r₂ => ?_))
  cases r₂
  have F₂ := F.ext x₂.keep
  refine wpAny_bind (wpAny_standAt ?_)
  unfold methodCall calleeOf
  refine wpAny_bind (wpAny_holding ?_)
  rw [if_pos (by rfl)]
  refine method_exc_init (XX _ F₂.keep) ?_
  dsimp only
  refine wpAny_bind (wpAny_of_eq (a := (⟨5, 8, 5, 38⟩ : Pos)) (by rfl) ?_)
  refine callWith_any (by rfl) keep_bi ?_
  refine (Evs.cons (eself _) (Evs.cons (etext _) Evs.nil)).go O { s₂ with toks := s₂.toks + 1 } _ _ _ F₂ (fun vs s₃ x₃ rs => ⟨hsta.keeps (F₂.ext x₃.keep).keep, ?_⟩)
  rcases rs.two with ⟨v1, v2, rfl, r1, r2⟩
  cases r1
  cases r2
  have F₃ := F₂.ext x₃.keep
  have he₃ : s₃.heap.get? e = some (exObj tup) := x₃.keep _ _ (x₂.keep _ _ he₁)
  refine exc_init_run (XX _ F₃.keep) (by rw [sizeLine_eq]; simp) he₃ (fun h₄ tup' k₄ he₄ => ?_)
  have F₄ := F₃.sameBut he₃ rfl hen (h' := h₄) k₄
  show wpAny c.M c.A (execs _ c.env) _ _ { s₃ with heap := h₄ }
  refine wpAny_execs_cons (plainObj_wpAny_Assign_Attribute (hs := by rfl) ?_)
  refine (etext _).go O { s₃ with heap := h₄ } _ _ F₄ (fun u s₅ d hd x₅ r₅ => ?_) (fun _ _ hr => by cases hr)
  cases hd
  cases r₅
  have F₅ := F₄.ext x₅.keep
  refine (eself _).go1 O s₅ _ _ F₅ (fun u s₆ x₆ r₆ => ?_)
  cases r₆
  have F₆ := F₅.ext x₆.keep
  have he₆ : s₆.heap.get? e = some (exObj tup') := x₆.keep _ _ (x₅.keep _ _ he₄)
  refine set_text (XX _ F₆.keep) he₆ (fun h₇ tk₇ dx k₇ he₇ => ?_)
  refine wpAny_execs_nil ?_
  have e7 := ((Same.mk' (s := s)).trans x₂.same).trans ((Same.mk' (s := s₂) (h := s₂.heap)).trans (x₃.same.trans ((Same.mk' (s := s₃) (h := h₄)).trans (x₅.same.trans x₆.same))))
  obtain ⟨h8, t8, rfl⟩ := e7
  exact hq h₇ tk₇ tup' dx (fun b o hb => k₇ b o (neN hb hen) (F₆.keep b o hb)) he₇
end Mine
end
section
open PySem PySem.W PySem.Calls PyProof.Rows
set_option Elab.async false
set_option maxRecDepth 100000
set_option linter.unusedVariables false
namespace Mine
theorem raiseStmt_rf {M : Model} {A : Around} {E : Value → Shared → Prop} {env : Env} {s : Shared} {x : Sem Value} {Q : Flow → Shared → Prop} (hh : A.handled = none)
    (h : wpAny M A x (fun v s₁ => ∃ e tup dx, v = .ref e ∧ s₁.heap.get? 44 = some cls44 ∧ s₁.heap.get? e = some (exObjD tup dx) ∧ E (.ref e) s₁) E s) : wpAny M A (raiseStmt env (some x) none) Q E s := by
  have hcB : (Value.ref 44 :: bm44).contains (.type "BaseException") = true := by decide +kernel
  unfold raiseStmt
  refine wpAny_bind (wpAny_mono h (fun v s₁ h₁ => ?_) fun _ _ x => x)
  rcases h₁ with ⟨e, tup, dx, rfl, hC, he, hE⟩
  rcases s₁ with ⟨hp, g, d, tk, os⟩
  repeat (first | with_reducible refine wpAny_loadPart_at he ?_ | with_reducible refine wpAny_loadPart_at hC ?_ | (with_reducible refine wpAny_isSubtype_exc hC ?_; rw [hcB]) | wp_step)
  exact wpAny_raiseNew_none hh hE
noncomputable
abbrev tcA (A : Around) (C : Addr) (rest : List Value) : Around := A.under (.builtin "type.__call__" ⟨.ref C :: rest, []⟩)
theorem tc_depth {A : Around} {C : Addr} {rest : List Value} : (tcA A C rest).depth = A.depth + 1 := rfl
theorem tc_units {A : Around} {C : Addr} {rest : List Value} : (tcA A C rest).units = A.units + 1 := rfl
theorem tc_frames {A : Around} {C : Addr} {rest : List Value} : (tcA A C rest).frames = A.frames := rfl
theorem tc_handled {A : Around} {C : Addr} {rest : List Value} : (tcA A C rest).handled = A.handled := rfl
theorem keep_44 (w : World) (h : Heap) (st : Sta w h) : ∃ k, (k = Keeper.frame ∨ k = Keeper.machine ∨ k = Keeper.boundFrame) ∧ Looks (model P0 w) h (keeperOf (.ref 44)) k := by
  rcases looks_keep (K := Ks w.params) (M := model P0 w) (f := .ref 44) (by kernel_rfl) st.inK with ⟨k, hk, l⟩
  exact ⟨k, hk.elim .inl (fun q => .inr (.inl q)), l⟩
section
variable {c : Cx} {ρ : List (Str × D)}
theorem Lv.made (O : c.Ok) {h₂ : Heap} (F : Fm c ρ h₂) {e tup dx : Addr} {s' : Shared} (k : Kp h₂ s'.heap) (hen : h₂.get? e = none) (he : s'.heap.get? e = some (exObjD tup dx)) : Lv c (.ref e) s' := by
  refine ⟨e, rfl, fun hc Q E hQ => ?_⟩
  have F' := F.ext k
  have hbase : c.base.StaysIn h₂ := fun b o e => F.keep b o (O.stays b o e)
  have hben : c.base.get? e = none := Kp.none hbase hen
  refine wpAny_leaving_firstW (a0 := .ref tup) (O.frEq hc ▸ O.frames) (O.frEq hc ▸ O.funs' F') (O.frame hc) he (fun b o e => k _ _ (hbase _ _ e)) hben rfl rfl rfl fun h' hL => ?_
  rcases hL with ⟨k1, ⟨_, _, k2⟩, k3, k4⟩
  exact hQ h' tup ⟨k1, hben, k2, k3⟩ ((Heap.UpToSlots.of_keeps F'.keep).trans k4)
theorem Exs.raise_ {np cpos pos : Pos} {arg : Expr} {d : D} {rest : List Stmt} (hf : Ev c ρ (.Name "RunFault" np) (some (.val (.ref 44)))) (ha : Ev c ρ arg (some d)) (hk : 2 ≤ c.n)
    (he : autoParam (∀ env, starEach [arg] env = (false, eval arg env) :: starEach [] env) aiRfl)
    (hplain : autoParam (∀ env, (backTo cpos (starEach [arg] env)).any (·.1) = false) aiRfl) : Exs c ρ (.Raise (some (.Call (.Name "RunFault" np) [arg] [] cpos)) none pos :: rest) .raise := by
  refine Exs.last ⟨fun O s Q E F hq => ?_⟩ (fun _ => by exact nofun)
  rw [arm_exec_Raise]
  show wpAny c.M c.A (standAt pos >>= fun _ => raiseStmt c.env (some (eval (.Call (.Name "RunFault" np) [arg] [] cpos) c.env >>= fun v => standAt pos >>= fun _ => pure v)) none) Q E s
  refine wpAny_bind (wpAny_standAt (raiseStmt_rf O.handled (wpAny_bind ?_)))
  show wpAny c.M c.A (do callWith cpos (← eval (.Name "RunFault" np) c.env) [] (backTo cpos (starEach [arg] c.env)) (backToKw cpos (keywordEach [] c.env))) _ _ _
  refine wpAny_bind (hf.go1 O s _ _ F (fun v s₁ x rd => ?_))
  cases rd
  have F₁ := F.ext x.keep
  refine callWith_any (hplain _) keep_44 ?_
  refine (Evs.cons ha Evs.nil he).go O s₁ cpos _ _ F₁ fun vs s₂ x₂ rs => ⟨O.sta.keeps (F₁.ext x₂.keep).keep, ?_⟩
  obtain ⟨v, rfl, r⟩ := rs.one
  have F₂ := F₁.ext x₂.keep
  rcases s₂ with ⟨h₂, g₂, d₂, t₂, os₂⟩
  refine rf_call (O.sta.inK.keeps F₂.keep) (by rw [sizeLine_eq]; simp) fun h' e tup kp hen hee htn htt => ?_
  refine rf_init (base := c.base) (outer := c.fr) (h₀ := h₂) (tup := tup) O.handled (by have := O.depth; show c.A.depth + 1 + 1 < _; (first | lia | omega)) (by have := O.units; show c.A.units + 1 + 103 < _; (first | lia | omega)) O.frames (O.funs' F₂) (fun b o e => F₂.keep _ _ (O.stays b o e)) (O.sta.keeps F₂.keep) kp hee hen
    fun h'' tk tup' dx k'' he'' => ⟨rfl, ?_⟩
  refine wpAny_bind (wpAny_standAt (wpAny_pure ⟨e, tup', dx, rfl, at44 ((O.sta.inK.keeps F₂.keep).keeps k''), he'', ?_⟩))
  refine hq.2.2 _ _ rfl ((x.same.trans x₂.same).trans ⟨h'', tk, rfl⟩) (Lv.made O F₂ k'' hen he'')
end
end Mine
end
section
open PySem PySem.W PySem.Calls PyProof.Rows
set_option Elab.async false
set_option maxRecDepth 100000
set_option linter.unusedVariables false
namespace Mine
section
variable {prog : Program} {w : World} {A : Around} {E : Value → Shared → Prop}
theorem IsList.ext {h h' : Heap} {l I : Addr} {vs : Array Value} (hl : h.IsList l vs) (hs : Heap.ExtBut I h h') (hne : l ≠ I) : h'.IsList l vs := by
  rcases hl with ⟨o, ho, r⟩
  exact ⟨o, hs _ _ hne ho, r⟩
theorem draw_list {it t : Addr} {items : Array Value} (hne : t ≠ it) : ∀ (n i : Nat) (s : Shared) (Q : List Value → Shared → Prop), s.heap.IsListIter it t i → s.heap.IsList t items → i + n ≤ items.size →
    (∀ h', h'.IsListIter it t (i + n) → Heap.ExtBut it s.heap h' → Q ((items.toList.drop i).take n) { s with heap := h' }) → wpAny (model prog w) A (draw (.ref it) n) Q E s
  | 0, i, s, Q, hit, _, _, hQ => by
    show wpAny _ _ (pure []) Q E s
    exact wpAny_pure (by simpa using hQ s.heap hit (fun _ _ _ e => e))
  | n + 1, i, s, Q, hit, ht, hle, hQ => by
    have hlt : i < items.size := by (first | lia | omega)
    show wpAny _ _ (pyNext (.ref it) >>= _) Q E s
    refine wpAny_bind (wpAny_pyNext_list_item hit ht (x := items[i]) (by simp [hlt]) fun h₁ hit₁ hs₁ => ?_)
    refine wpAny_bind (wpAny_holding (draw_list hne n (i + 1) { s with heap := h₁ } _ hit₁ (IsList.ext ht hs₁.extBut hne) (by (first | lia | omega)) fun h₂ hit₂ hs₂ => wpAny_pure ?_))
    have hd : items.toList.drop i = items[i] :: items.toList.drop (i + 1) := by simp [List.drop_eq_getElem_cons, hlt]
    have := hQ h₂ (by rw [show i + (n + 1) = i + 1 + n by (first | lia | omega)]; exact hit₂) (fun b o hb e => hs₂ b o hb (hs₁.extBut b o hb e))
    rw [hd, List.take_succ_cons] at this
    exact this
theorem unpackItems_list {s : Shared} {t : Addr} {items : Array Value} {Q : List Value → Shared → Prop} (hh : A.handled = none) (ht : s.heap.IsList t items)
    (hQ : ∀ h', Heap.ExtBut s.heap.objs.size s.heap h' → Q items.toList { s with heap := h' }) : wpAny (model prog w) A (unpackItems (.ref t) items.size none) Q E s := by
  have hlt : t ≠ s.heap.objs.size := by obtain ⟨o, ho, _⟩ := ht; exact Nat.ne_of_lt (Heap.lt_size ho)
  unfold unpackItems
  refine wpAny_bind ?_
  · unfold notIterableAtAll
    refine wpAny_bind (wpAny_specialOf ht.typeIs slot_list_iter.lookup ?_)
    refine wpAny_pure ?_
    simp only [Bool.false_eq_true, if_false]
    refine wpAny_bind (wpAny_holding (wpAny_pyIter_list ht ?_))
    refine wpAny_bind (wpAny_holding (draw_list hlt items.size 0 _ _ ⟨_, Heap.get?_push_size _ rfl, rfl, rfl⟩ (IsList.ext (I := s.heap.objs.size) ht (fun _ _ _ e => Heap.get?_push_of_some _ e) hlt) (by (first | lia | omega)) fun h₁ hit₁ hs₁ => ?_))
    have hall : List.take items.size (List.drop 0 items.toList) = items.toList := by
      rw [List.drop_zero]; exact List.take_of_length_le (by simp)
    rw [hall]
    rw [if_neg (by simp)]
    have hs₁' : Heap.ExtBut s.heap.objs.size s.heap h₁ := fun b o hb e => hs₁ b o hb (Heap.get?_push_of_some _ e)
    have ht₁ : h₁.IsList t items := IsList.ext ht hs₁' hlt
    refine wpAny_bind (wpAny_holding (wpAny_pyNext_list_end hh hit₁ ht₁ (by simp) fun h₂ he₂ => ?_))
    simp only [Option.isSome_none, Bool.false_eq_true, if_false]
    exact wpAny_pure (hQ h₂ fun b o hb e => he₂ b o hb (hs₁' b o hb e))
theorem assign_Tuple_list {s : Shared} {env : Env} {elts : List Expr} {x1} {pos : Pos} {t : Addr} {items : Array Value} {Q : Unit → Shared → Prop} (hh : A.handled = none) (ht : s.heap.IsList t items)
    (hn : (assignEach elts env).length = items.size) (hstar : (assignEach elts env).findIdx? (·.1) = none)
    (h : ∀ h', Heap.ExtBut s.heap.objs.size s.heap h' → wpAny (model prog w) A (assignInOrder ((assignEach elts env).map (·.2)) items.toList) Q E { s with heap := h' }) :
    wpAny (model prog w) A (assign (.Tuple elts x1 pos) env (.ref t)) Q E s := by
  rw [PyProof.Rows.assign_Tuple]
  refine wpAny_bind (wpAny_standAt ?_)
  unfold unpack
  rw [hn, hstar]
  exact wpAny_bind (wpAny_holding (unpackItems_list hh ht h))
end
section
variable {c : Cx} {ρ : List (Str × D)} {o : Out}
theorem Ex.tup2L {x y : Str} {px py : Pos} {k : Nat} {tp pos : Pos} {e : Expr} {d1 d2 : D} {ns : List (Str × NameKind)} (h : Ev c ρ e (some (.lst [d1, d2]))) (hs : c.ns = ns) (hx : ns.lookup x = some .local) (hy : ns.lookup y = some .local)
    (hw : autoParam (∀ env, swapsWithSole [.Tuple [.Name x px, .Name y py] k tp] e pos.line env = pure false) aiRfl)
    (hw2 : autoParam (∀ env, swappedStores [.Tuple [.Name x px, .Name y py] k tp] e env = pure Option.none) aiRfl) :
    Ex c ρ (.Assign [.Tuple [.Name x px, .Name y py] k tp] e pos) (.next ((y, d2) :: (x, d1) :: ρ)) := by
  refine ⟨?_⟩
  intro O s Q E F hq
  refine Assign_Tuple (h.go O s _ E F (fun v s₁ d' hr x₁ rd => ?_) (fun _ _ hr => by cases hr)) (hw _) (hw2 _)
  cases hr
  rcases Rd.lst_inv rd with ⟨_, _, _, _, rfl, ho, hc, hd', hrs⟩
  case _ =>
    rename_i a o vs n
    have F₁ := F.ext x₁.keep
    have hz : vs.size = 2 := by have := hrs.length; rw [Array.length_toList] at this; exact this
    refine assign_Tuple_list O.handled ⟨_, ho, hc, _, hd'⟩ (by rw [hz]; rfl) rfl fun h' he => ?_
    have k' : Kp s₁.heap h' := fun b o e => he b o (Nat.ne_of_lt (Heap.lt_size e)) e
    rcases (hrs.keeps k').two with ⟨v1, v2, hv, r1, r2⟩
    rw [hv]
    have F₂ := F₁.ext k'
    refine assignInOrder_cons (assign_name_ok (s := { s₁ with heap := h' }) O F₂ r1 (hs ▸ hx) fun s₂ kl hs₂ F₃ => ?_)
    refine assignInOrder_cons (assign_name_ok O F₃ (F₂.kpl kl r2) (hs ▸ hy) fun s₃ kl₃ hs₃ F₄ => assignInOrder_nil ?_)
    exact hq.1 _ _ rfl ((KpL.of (x₁.keep.trans k')).trans (kl.trans kl₃)) ((x₁.same.trans (Same.mk' (s := s₁) (h := h'))).trans (hs₂.trans hs₃)) F₄
theorem Exs.tup2L {x y : Str} {px py : Pos} {k : Nat} {tp pos : Pos} {e : Expr} {d1 d2 : D} {ns : List (Str × NameKind)} {rest : List Stmt} (h : Ev c ρ e (some (.lst [d1, d2]))) (hs : c.ns = ns) (hx : ns.lookup x = some .local) (hy : ns.lookup y = some .local)
    (hr : Exs c ((y, d2) :: (x, d1) :: ρ) rest o)
    (hw : autoParam (∀ env, swapsWithSole [.Tuple [.Name x px, .Name y py] k tp] e pos.line env = pure false) aiRfl)
    (hw2 : autoParam (∀ env, swappedStores [.Tuple [.Name x px, .Name y py] k tp] e env = pure Option.none) aiRfl) :
    Exs c ρ (.Assign [.Tuple [.Name x px, .Name y py] k tp] e pos :: rest) o := Exs.cons (Ex.tup2L h hs hx hy hw hw2) hr
end
end Mine
end
section
open PySem PySem.W PySem.Calls PyProof.Rows
set_option Elab.async false
set_option maxRecDepth 100000
set_option linter.unusedVariables false
namespace Mine
section
variable {w : World} {A : Around} {x y : Str}
theorem bin_addS (h : x.length + y.length ≤ sizeLine) : BinOk w A .Add (.str x) (.str y) (.str (x ++ y)) := by
  refine ⟨?_⟩
  intro g s va vb Q E st ra rb hq
  cases ra; cases rb
  exact PyProof.Rows.add_str (fun t' tk => hq _ _ .tok (.str _ _)) h
theorem cmp_eqS : CmpOk w A .Eq (.str x) (.str y) (x == y) := by
  refine ⟨?_⟩
  intro g s va vb Q E st ra rb h
  cases ra; cases rb
  exact PyProof.Rows.eq_str (h _ (.refl _))
theorem cmp_neS : CmpOk w A .NotEq (.str x) (.str y) (x != y) := by
  refine ⟨?_⟩
  intro g s va vb Q E st ra rb h
  cases ra; cases rb
  exact PyProof.Rows.ne_str (h _ (.refl _))
theorem cmp_ltS : CmpOk w A .Lt (.str x) (.str y) (decide (x.cps.toList < y.cps.toList)) := by
  refine ⟨?_⟩
  intro g s va vb Q E st ra rb h
  cases ra; cases rb
  exact PyProof.Rows.lt_str (h _ (.refl _))
theorem cmp_gtS : CmpOk w A .Gt (.str x) (.str y) (decide (y.cps.toList < x.cps.toList)) := by
  refine ⟨?_⟩
  intro g s va vb Q E st ra rb h
  cases ra; cases rb
  exact PySem.P.gt_str (h _ (.refl _))
theorem cmp_inS : CmpOk w A .In (.str x) (.str y) (!(Builtin.Str.occurrences y x 0 y.length 1).isEmpty) := by
  refine ⟨?_⟩
  intro g s va vb Q E st ra rb h
  cases ra; cases rb
  exact PyProof.Rows.in_str (h _ (.refl _))
theorem foldl_reps (c : Nat) : ∀ (k : Nat) (a : Array Nat), (List.replicate k #[c]).foldl (· ++ ·) a = a ++ (List.replicate k c).toArray
  | 0, a => by simp
  | k + 1, a => by
    rw [List.replicate_succ, List.foldl_cons, foldl_reps c k, Array.append_assoc]
    congr 1
    rw [List.replicate_succ]
    simp
theorem bin_mulS1 {n : Int} {c : Nat} (hx : x = ⟨#[c]⟩) (hn : n ≤ 1000000) (hl : -1000000 ≤ n) : BinOk w A .Mult (.str x) (.int n) (.str ⟨(List.replicate n.toNat c).toArray⟩) := by
  refine ⟨?_⟩
  intro g s va vb Q E st ra rb hq
  subst hx
  cases ra; cases rb
  have hz : sizeLine = sizeLine := rfl
  rw [sizeLine_eq] at hz
  refine PySem.P.mul_str (by rw [decide_eq_false (by (first | lia | omega)), decide_eq_false (by (first | lia | omega))]; rfl) (fun h1 h2 => ?_) (fun h1 h2 => ?_) ?_
  · show ¬ ((1 : Nat) : Int) > _
    intro h
    have : (1 : Int) ≤ (2 ^ 63 - 1) / n := by
      rw [Int.le_ediv_iff_mul_le (by (first | lia | omega))]; (first | lia | omega)
    (first | lia | omega)
  · show decide (1 * n.toNat > sizeLine) = false
    rw [sizeLine_eq]
    exact decide_eq_false (by (first | lia | omega))
  · by_cases h1 : n < 1
    · rw [if_pos h1]
      refine ⟨Nat.zero_le _, ?_⟩
      have e : n.toNat = 0 := by (first | lia | omega)
      rw [e] at hq
      exact hq _ _ .tok (.str _ _)
    · rw [if_neg h1]
      by_cases h2 : n = 1
      · subst h2
        exact hq _ _ (.refl _) (.str _ _)
      · rw [if_neg (by simp [h2, Str.length])]
        rw [foldl_reps]
        refine ⟨?_, ?_⟩
        · rw [sizeLine_eq]
          simp [Str.length]
          (first | lia | omega)
        · have := hq (.str ⟨#[] ++ (List.replicate n.toNat c).toArray⟩ s.toks) { s with toks := s.toks + 1 } .tok
          rw [Array.empty_append] at this ⊢
          exact this (.str _ _)
end
section
variable {c : Cx} {ρ : List (Str × D)}
theorem kept_kp (h₀ : Heap) : KeptH (fun h => Kp h₀ h) := fun h ob k b o e => Heap.get?_push_of_some _ (k b o e)
theorem Ev.slTo {v e : Expr} {p pos : Pos} {x : Str} {j : Int} (h1 : Ev c ρ v (some (.str x))) (h2 : Ev c ρ e (some (.int j))) (hz : x.length ≤ sizeLine)
    (ht : ∀ o r, letTemporaryGo v o r = pure () := by intro _ _; rfl) : Ev c ρ (.Subscript v (.Slice Option.none (some e) Option.none p) pos) (some (.str (Txt.slice x Option.none (some j)))) := by
  refine ⟨?_⟩
  intro O s Q E F hQ _
  refine Subscript_Slice (h1.go1 O s _ _ F (fun v₁ s₁ x₁ r₁ => ?_)) ht
  cases r₁
  refine wpAny_Slice (wpAny_pure (h2.go1 O s₁ _ _ (F.ext x₁.keep) (fun v₂ s₂ x₂ r₂ => ?_)))
  cases r₂
  exact wpAny_pure (SBH.sliceItem_ns (kept_kp s₂.heap) (.refl _) (fun h' t' k hp => hQ _ _ _ rfl ((x₁.trans x₂).trans ⟨hp, _, _, rfl⟩) (.str _ _)) hz)
theorem Ev.slFrom {v e : Expr} {p pos : Pos} {x : Str} {j : Int} (h1 : Ev c ρ v (some (.str x))) (h2 : Ev c ρ e (some (.int j))) (hz : x.length ≤ sizeLine)
    (ht : ∀ o r, letTemporaryGo v o r = pure () := by intro _ _; rfl) : Ev c ρ (.Subscript v (.Slice (some e) Option.none Option.none p) pos) (some (.str (Txt.slice x (some j) Option.none))) := by
  refine ⟨?_⟩
  intro O s Q E F hQ _
  refine Subscript_Slice (h1.go1 O s _ _ F (fun v₁ s₁ x₁ r₁ => ?_)) ht
  cases r₁
  refine wpAny_Slice (h2.go1 O s₁ _ _ (F.ext x₁.keep) (fun v₂ s₂ x₂ r₂ => ?_))
  cases r₂
  exact wpAny_pure (wpAny_pure (SBH.sliceItem_sn (kept_kp s₂.heap) (.refl _) (fun h' t' k hp => hQ _ _ _ rfl ((x₁.trans x₂).trans ⟨hp, _, _, rfl⟩) (.str _ _)) hz))
theorem Ev.slOf {v e f : Expr} {p pos : Pos} {x : Str} {i j : Int} (h1 : Ev c ρ v (some (.str x))) (h2 : Ev c ρ e (some (.int i))) (h3 : Ev c ρ f (some (.int j))) (hz : x.length ≤ sizeLine)
    (ht : ∀ o r, letTemporaryGo v o r = pure () := by intro _ _; rfl) : Ev c ρ (.Subscript v (.Slice (some e) (some f) Option.none p) pos) (some (.str (Txt.slice x (some i) (some j)))) := by
  refine ⟨?_⟩
  intro O s Q E F hQ _
  refine Subscript_Slice (h1.go1 O s _ _ F (fun v₁ s₁ x₁ r₁ => ?_)) ht
  cases r₁
  have F₁ := F.ext x₁.keep
  refine wpAny_Slice (h2.go1 O s₁ _ _ F₁ (fun v₂ s₂ x₂ r₂ => ?_))
  cases r₂
  refine h3.go1 O s₂ _ _ (F₁.ext x₂.keep) (fun v₃ s₃ x₃ r₃ => ?_)
  cases r₃
  exact wpAny_pure (SBH.sliceItem_ss (kept_kp s₃.heap) (.refl _) (fun h' t' k hp => hQ _ _ _ rfl (((x₁.trans x₂).trans x₃).trans ⟨hp, _, _, rfl⟩) (.str _ _)) hz)
theorem Ev.find {o e : Expr} {apos pos : Pos} {x y : Str} (h1 : Ev c ρ o (some (.str x))) (h2 : Ev c ρ e (some (.str y)))
    (hbase : autoParam (∀ env, attributeBase o "find" env (eval o env) = eval o env) aiRfl) (hs : autoParam (∀ env, starEach [e] env = [(false, eval e env)]) aiRfl) (hline : autoParam ((apos.endLine == pos.line) = true) aiR) :
    Ev c ρ (.Call (.Attribute o "find" apos) [e] [] pos) (some (.int (Txt.find x y))) := by
  refine ⟨?_⟩
  intro O s Q E F hQ _
  refine Call_method1 (hbase _) (hs _) hline (h1.go1 O s _ _ F (fun v₁ s₁ x₁ r₁ => ?_))
  cases r₁
  refine SB.find (h2.go1 O s₁ _ _ (F.ext x₁.keep) (fun v₂ s₂ x₂ r₂ => ?_))
  cases r₂
  exact ⟨_, _, rfl, hQ _ _ _ rfl ((x₁.trans x₂).trans .tok) (.int _ _)⟩
end
theorem int_text_ok {x : Str} {n : Int} (hn : PySem.intText? x = some n) (hl : x.length ≤ 640) : CallOk 0 (.type "int") [.str x] (some (.int n)) := by
  refine ⟨keep_ty, ?_⟩
  intro w A base outer s vs Q E hA hd hu hfr hfun hst hsta hrd hQ hE
  obtain ⟨v, rfl, r⟩ := hrd.one
  cases r
  exact KIN.call_text hn hl (hQ _ _ _ rfl .tok fun g => .int _ _)
end Mine
end
section
open PySem PySem.W PySem.Calls PyProof.Rows
set_option Elab.async false
set_option maxRecDepth 100000
set_option linter.unusedVariables false
namespace Mine
mutual
noncomputable
def D.noLst : D → Bool
  | .lst _ => false
  | .tup ds => D.noLstAll ds
  | _ => true
noncomputable
def D.noLstAll : List D → Bool
  | [] => true
  | d :: ds => d.noLst && D.noLstAll ds
end
/-- a heap without the object at l -/
noncomputable
abbrev hid (l : Addr) (h : Heap) : Heap := hideAll h [l]
theorem hid_get {l b : Addr} {h : Heap} {o : Obj} (e : h.get? b = some o) (hb : b ≠ l) : (hid l h).get? b = some o := hideAll_get _ e (by simpa using hb)
theorem of_hid {l b : Addr} {h : Heap} {o : Obj} (e : (hid l h).get? b = some o) : h.get? b = some o ∧ b ≠ l := by
  refine ⟨of_hideAll _ e, fun q => ?_⟩
  subst q
  rw [hideAll_none [b] (.head _)] at e; cases e
section
variable {g h : Heap} {l : Addr} (hl : ∀ o, h.get? l = some o → o.cls ≠ .type "tuple")
include hl
theorem Rd.hid {v : Value} {d : D} (hd : d.noLst = true) (r : Rd g h v d) : Rd g (hid l h) v d :=
  Rd.rec (motive_1 := fun v d _ => d.noLst = true → Rd g (Mine.hid l h) v d) (motive_2 := fun vs ds _ => D.noLstAll ds = true → RdAll g (Mine.hid l h) vs ds)
    (fun _ => .none) (fun b _ => .bool b) (fun i t _ => .int i t) (fun x t _ => .str x t)
    (fun h1 h2 h3 _ i hd => .tup (hid_get h1 (fun q => hl _ (q ▸ h1) h2)) h2 h3 (i hd)) (fun _ _ _ _ _ hd => Bool.noConfusion hd)
    (fun v _ => .val v) (fun x _ => .lim x) (fun hp x _ => .tab hp x) (fun _ => .nil)
    (fun _ _ a b hd => .cons (a (Bool.and_eq_true_iff.mp hd).1) (b (Bool.and_eq_true_iff.mp hd).2)) r hd
theorem RdAll.hid {vs : List Value} {ds : List D} (hd : D.noLstAll ds = true) (r : RdAll g h vs ds) : RdAll g (Mine.hid l h) vs ds :=
  r.rec' (m := fun vs ds => D.noLstAll ds = true → RdAll g (Mine.hid l h) vs ds) (fun _ => .nil) (fun a _ i hd => .cons (Rd.hid hl (Bool.and_eq_true_iff.mp hd).1 a) (i (Bool.and_eq_true_iff.mp hd).2)) hd
end
theorem neL {ns : List (Str × NameKind)} {x y : Str} {a b : NameKind} (e : ns.lookup x = some a) (n : ns.lookup y = some b) (h : a ≠ b) : x ≠ y :=
  fun q => h (Option.some.inj (e.symm.trans (q ▸ n)))
theorem Rd.unhid {g h h' : Heap} {l : Addr} (k : ∀ b o, b ≠ l → h.get? b = some o → (∃ vs n, o.data = .seq vs n) → h'.get? b = some o) {v : Value} {d : D} (r : Rd g (Mine.hid l h) v d) : Rd g h' v d :=
  r.mono (.refl _) fun b o e hq => k b o (of_hid e).2 (of_hid e).1 hq
theorem RdAll.unhid {g h h' : Heap} {l : Addr} (k : ∀ b o, b ≠ l → h.get? b = some o → (∃ vs n, o.data = .seq vs n) → h'.get? b = some o) {vs : List Value} {ds : List D} (r : RdAll g (Mine.hid l h) vs ds) : RdAll g h' vs ds :=
  r.mono (.refl _) fun b o e hq => k b o (of_hid e).2 (of_hid e).1 hq
theorem RdAll.append {g h : Heap} {vs ws : List Value} {ds es : List D} (r : RdAll g h vs ds) (q : RdAll g h ws es) : RdAll g h (vs ++ ws) (ds ++ es) :=
  r.rec' (m := fun vs ds => RdAll g h (vs ++ ws) (ds ++ es)) q fun a _ i => .cons a i
theorem RdAll.snoc {g h : Heap} {vs : List Value} {ds : List D} {v : Value} {d : D} (r : RdAll g h vs ds) (q : Rd g h v d) : RdAll g h (vs ++ [v]) (ds ++ [d]) :=
  r.append (.cons q .nil)

/-- an expression whose value is read past every list that stood before -/
structure EvX (c : Cx) (ρ : List (Str × D)) (e : Expr) (d : D) : Prop where
  go : c.Ok → ∀ (s : Shared) (Q E : Value → Shared → Prop), Fm c ρ s.heap →
    (∀ v s', Ext s s' → (∀ l o, s.heap.get? l = some o → o.cls = .type "list" → Rd c.g (hid l s'.heap) v d) → Q v s') → wpAny c.M c.A (eval e c.env) Q E s
theorem EvX.of {c : Cx} {ρ : List (Str × D)} {e : Expr} {d : D} (h : Ev c ρ e (some d)) (hn : d.noLst = true) : EvX c ρ e d := by
  refine ⟨fun O s Q E F hQ => h.go O s Q E F (fun v s' d' hd x r => ?_) fun _ _ hr => by cases hr⟩
  cases hd
  refine hQ v s' x fun l o ho hc => r.hid (fun o' ho' hc' => ?_) hn
  have := x.keep _ _ ho
  rw [this] at ho'; cases ho'; rw [hc] at hc'; exact absurd hc' (by decide)
/-- the tests of a comprehension -/
noncomputable
def TestsOk (c : Cx) (ρ : List (Str × D)) : List Expr → Bool → Prop
  | [], b => b = true
  | [t], b => Tr c ρ t b
  | _, _ => False

/-- what a value is walked as -/
noncomputable
def Itb (w : World) (A : Around) (g : Heap) (src : List D) (v : Value) (s : Shared) : Prop :=
  ∀ (Q E : Value → Shared → Prop), (∀ I fp wr P St h', Kp s.heap h' → (∀ b ∈ wr, g.get? b = none) → (∀ b ∈ fp, b < h'.objs.size) → Walks P0 w A I fp wr src.length P St → St 0 h' → (∀ i h b o, St i h → b ∈ wr → h.get? b = some o → ∀ vs n, o.data ≠ .seq vs n) →
    (∀ i v d, P i v → src[i]? = some d → ∀ h'', Kp g h'' → Rd g h'' v d) → Q (.ref I) { s with heap := h' }) → wpAny (model P0 w) A (pyIter v) Q E s
structure IterEv (c : Cx) (ρ : List (Str × D)) (e : Expr) (src : List D) : Prop where
  go : c.Ok → ∀ (s : Shared) (Q E : Value → Shared → Prop), Fm c ρ s.heap →
    (∀ v s' g', Kp s.heap g' → Kp g' s'.heap → Same s s' → Itb c.w c.A g' src v s' → Q v s') → wpAny c.M c.A (eval e c.env) Q E s
theorem fresh_size (h : Heap) : h.get? h.objs.size = none := Heap.get?_none_of_le (Nat.le_refl _)
theorem Itb.list {w : World} {A : Around} {g : Heap} {src : List D} {a : Addr} {s : Shared} {g₀ : Heap} (hA : A.handled = none) (r : Rd g₀ s.heap (.ref a) (.lst src)) (hg : g = s.heap) (hg₀ : Kp g₀ g) : Itb w A g src (.ref a) s := by
  intro Q E hQ
  subst hg
  rcases Rd.lst_inv r with ⟨_, _, _, _, hve0, ho, hc, hd, hrs⟩
  first | subst hve0 | obtain ⟨⟩ := hve0
  case _ =>
    rename_i ol vs nl
    have hl : s.heap.IsList a vs := ⟨_, ho, hc, _, hd⟩
    have hz := hrs.length
    rw [Array.length_toList] at hz
    have hne : a ≠ s.heap.objs.size := Nat.ne_of_lt (Heap.lt_size ho)
    have kp : Kp s.heap (s.heap.push { cls := .type "list_iterator", data := .fields #[.ref a, .int 0 0] }) := fun b o e => Heap.get?_push_of_some _ e
    refine wpAny_pyIter_list hl ?_
    refine hQ s.heap.objs.size [s.heap.objs.size, a] [s.heap.objs.size] _ _ _ kp (fun b hb => by rw [List.mem_singleton.mp hb]; exact fresh_size _) (fun b hb => ?_) (hz ▸ Walks.list hA _ _ hne vs) ⟨⟨_, Heap.get?_push_size _ rfl, rfl, rfl⟩, ⟨_, kp _ _ ho, hc, _, hd⟩⟩ (fun i h b o st hb e ws nn hq => ?_) ?_
    · rw [Heap.size_push]
      obtain rfl | hb := List.mem_cons.mp hb
      · exact Nat.lt_succ_self _
      · rw [List.mem_singleton.mp hb]; exact Nat.lt_succ_of_lt (Heap.lt_size ho)
    · rcases st with ⟨⟨o', ho', _, hd'⟩, _⟩
      rw [List.mem_singleton.mp hb, ho'] at e
      cases e
      rw [hd'] at hq; cases hq
    · intro i v d hP hd h'' k
      rcases hrs.get hd with ⟨v', hv', rv⟩
      rw [Array.getElem?_toList] at hv'
      have hP : vs[i]? = some v := hP
      rw [hP] at hv'; cases hv'
      exact (rv.keeps k).mono hg₀ fun _ _ e _ => e
theorem IterEv.lst {c : Cx} {ρ : List (Str × D)} {e : Expr} {src : List D} (h : Ev c ρ e (some (.lst src))) : IterEv c ρ e src := by
  refine ⟨fun O s Q E F hQ => h.go O s Q E F (fun v s' d hd x r => ?_) fun _ _ hr => by cases hr⟩
  cases hd
  rcases Rd.lst_inv r with ⟨_, _, _, _, hve0, ho, hc, hd, hrs⟩
  first | subst hve0 | obtain ⟨⟩ := hve0
  case _ => exact hQ _ s' s'.heap x.keep (.refl _) x.same (Itb.list O.handled (.lst ho hc hd hrs) rfl (fun b o e => x.keep _ _ (F.keep _ _ e)))
/-- the signs of a text -/
noncomputable
def signD (x : Str) : List D := x.cps.toList.map fun k => .str ⟨#[k]⟩
theorem IterEv.str {c : Cx} {ρ : List (Str × D)} {e : Expr} {x : Str} (h : Ev c ρ e (some (.str x))) : IterEv c ρ e (signD x) := by
  refine ⟨fun O s Q E F hQ => h.go O s Q E F (fun v s' d hd x₁ r => ?_) fun _ _ hr => by cases hr⟩
  cases hd
  cases r with
  | str x t =>
    refine hQ _ s' s'.heap x₁.keep (.refl _) x₁.same fun Q E hQ => ?_
    have hlen : (signD x).length = x.cps.size := by simp [signD]
    have fin : ∀ ty, Walks P0 c.w c.A s'.heap.objs.size [s'.heap.objs.size] [s'.heap.objs.size] x.cps.size (SignAt x) (fun i h => h.IsStrIter s'.heap.objs.size ty x t i) →
        Q (.ref s'.heap.objs.size) { s' with heap := s'.heap.push { cls := .type ty, data := .fields #[.str x t, .int 0 0] } } := by
      intro ty W
      refine hQ s'.heap.objs.size [s'.heap.objs.size] [s'.heap.objs.size] _ _ _ (fun b o e => Heap.get?_push_of_some _ e) (fun b hb => by rw [List.mem_singleton.mp hb]; exact fresh_size _) (fun b hb => by rw [List.mem_singleton.mp hb, Heap.size_push]; exact Nat.lt_succ_self _) (hlen ▸ W) ⟨_, Heap.get?_push_size _ rfl, rfl, rfl⟩ (fun i h b o st hb e ws nn hq => ?_) ?_
      · rcases st with ⟨o', ho', _, hd'⟩
        rw [List.mem_singleton.mp hb, ho'] at e
        cases e
        rw [hd'] at hq; cases hq
      · rintro i v d ⟨k, u, hk, rfl⟩ hd h'' _
        rw [signD, List.getElem?_map, Array.getElem?_toList, hk] at hd
        cases hd
        exact .str _ _
    cases ha : x.cps.all (· < 128)
    · exact wpAny_pyIter_wide ha (fin _ (Walks.strWide O.handled _ x t))
    · exact wpAny_pyIter_ascii ha (fin _ (Walks.strAscii O.handled _ x t))
/-- 0, 1, .. n - 1 -/
noncomputable
def rangeD (n : Nat) : List D := (List.range n).map fun (k : Nat) => .int (k : Int)
theorem IterEv.range {c : Cx} {ρ : List (Str × D)} {func e : Expr} {pos : Pos} {n : Int} (hf : Ev c ρ func (some (.val (.type "range")))) (h : Ev c ρ e (some (.int n))) (h1 : n ≤ 1000000) (h0 : 0 ≤ n)
    (harm : autoParam (∀ env, eval (.Call func [e] [] pos) env = (do callWith pos (← eval func env) [] (backTo pos (starEach [e] env)) (backToKw pos (keywordEach [] env)))) aiRfl)
    (hplain : autoParam (∀ env, (backTo pos (starEach [e] env)).any (·.1) = false) aiRfl)
    (he : autoParam (∀ env, starEach [e] env = (false, eval e env) :: starEach [] env) aiRfl) : IterEv c ρ (.Call func [e] [] pos) (rangeD n.toNat) := by
  refine ⟨fun O s Q E F hQ => ?_⟩
  rw [harm]
  refine wpAny_bind (hf.go1 O s _ _ F (fun v s₁ x rd => ?_))
  cases rd
  refine callWith_any (hplain _) keep_ty ?_
  refine (Evs.cons h Evs.nil he).go O s₁ pos _ E (F.ext x.keep) fun vs s₂ x₂ rs => ⟨O.sta.keeps ((F.ext x.keep).ext x₂.keep).keep, ?_⟩
  obtain ⟨v, rfl, r⟩ := rs.one
  obtain ⟨t, rfl⟩ := Rd.int_inv r
  case _ =>
    refine call_range_1 ?_
    have k2 : Kp s₂.heap (s₂.heap.push { cls := .type "range", data := .fields #[.int 0 s₂.toks, .int n t, .int 1 (s₂.toks + 1)] }) := fun b o e => Heap.get?_push_of_some _ e
    refine hQ _ _ _ (x.keep.trans (x₂.keep.trans k2)) (.refl _) ((x.same.trans x₂.same).trans ⟨_, _, rfl⟩) fun Q E hQ => ?_
    have hr := IsRange.new s₂.heap 0 n 1 s₂.toks t (s₂.toks + 1)
    have hn : Builtin.Range.rangeSize 0 n 1 = ((n.toNat : Nat) : Int) := by
      unfold Builtin.Range.rangeSize
      rw [if_pos (by decide)]
      split <;> (first | lia | omega)
    refine wpAny_pyIter_range hr (by unfold Builtin.Range.small; rw [hn]; simp only [Builtin.Range.rangeFitsLong, Bool.and_eq_true, Bool.or_eq_true, decide_eq_true_eq, beq_iff_eq, show ((1 : Int) > 0) by decide, if_true]; (first | lia | omega)) ?_
    have hlen : (rangeD n.toNat).length = n.toNat := by simp [rangeD]
    refine hQ _ [_] [_] _ _ _ (fun b o e => Heap.get?_push_of_some _ e) (fun b hb => by rw [List.mem_singleton.mp hb]; exact fresh_size _) (fun b hb => by rw [List.mem_singleton.mp hb, Heap.size_push]; exact Nat.lt_succ_self _) (by rw [hlen]; exact LCg.range_walks O.handled 0 n.toNat) ?_ (fun i h b o' st hb e ws nn hq => ?_) ?_
    · show IsRangeIter _ _ _ _ _
      rw [hn]
      have := Heap.get?_push_size (h := s₂.heap.push { cls := .type "range", data := .fields #[.int 0 s₂.toks, .int n t, .int 1 (s₂.toks + 1)] }) (o := { cls := .type "range_iterator", data := .fields #[rawInt 0, rawInt ((n.toNat : Nat) : Int), rawInt 1] }) rfl
      simpa [IsRangeIter] using this
    · have st : h.get? _ = some _ := st
      rw [List.mem_singleton.mp hb, st] at e
      cases e
      cases hq
    · rintro i v d ⟨u, rfl⟩ hd h'' _
      rw [rangeD, List.getElem?_map] at hd
      have hi : i < n.toNat := by
        apply Nat.lt_of_not_le
        intro hle
        rw [List.getElem?_eq_none (by simpa using hle)] at hd
        cases hd
      rw [List.getElem?_range hi] at hd
      cases hd
      rw [Int.zero_add]
      exact .int _ _
end Mine
end
section
open PySem PySem.W PySem.Calls PyProof.Rows
set_option Elab.async false
set_option maxRecDepth 100000
set_option linter.unusedVariables false
namespace Mine
section
variable {c : Cx} {ρ : List (Str × D)}
/-- the context of a comprehension's own names -/
noncomputable
def Cx.inner (c : Cx) (scope : Scope) (cl : List (Str × Addr)) (C : Addr) (g : Heap) (ns : List (Str × NameKind)) : Cx :=
  ⟨c.w, c.A, compEnvC scope cl C c.env, g, c.base, c.outer, c.n, ns, c.fr, true⟩
noncomputable
def freeOf (ρ : List (Str × D)) : Option (Str × D) → List (Str × D)
  | none => []
  | some p => [p]
theorem inner_ok (O : c.Ok) {h g : Heap} (F : Fm c ρ h) (k : Kp h g) {scope : Scope} {cl : List (Str × Addr)} {C : Addr} {ns ns' : List (Str × NameKind)} (hs : c.ns = ns) (hk : scope.kind = .function)
    (hns : (scope.names.map fun x => if (x.2 == NameKind.free && ns.lookup x.1 == some .cell) then (x.1, NameKind.cell) else (x.1, x.2)) = ns') (hC : g.get? C = none) : (c.inner scope cl C g ns').Ok := by
  have Fg := F.ext k
  refine ⟨hk, ?_, O.globals, O.builtins, fun h => (nomatch h), O.handled, O.depth, O.units, O.frames, fun h => (nomatch h), fun h => (nomatch h), fun _ => O.funs' Fg, fun b o e => Fg.keep b o (O.stays b o e), O.sta.keeps Fg.keep, hC⟩
  show (relabel scope c.env).names = ns'
  rw [← hns]
  unfold relabel
  dsimp only
  congr 1
  funext x
  obtain ⟨n, kd⟩ := x
  have e1 : (c.env.scope.kind == ScopeKind.function) = true := by rw [O.kind]; rfl
  have e2 : c.env.kindOf n = ns.lookup n := by show c.env.scope.names.lookup n = _; rw [O.names, hs]
  dsimp only
  rw [e1, e2, Bool.and_true]

structure CompHeap (g₀ g h₂ h₁ : Heap) (fp : List Addr) (Da C : Addr) : Prop where
  dc : Da ≠ C
  df : Da ∉ fp
  cf : C ∉ fp
  old : Kp h₂ h₁
  gC : g.get? C = none
  gD : g.get? Da = none
  sC : g₀.get? C = none
  acc : h₁.IsList Da #[]
theorem compHeap {g₀ g h₂ h₁ : Heap} {fp : List Addr} (kg : Kp g₀ g) (k2 : Kp g h₂) (hfp : ∀ b ∈ fp, b < h₂.objs.size)
    (up : ∀ b o, b ≠ (h₂.push { cls := .type "list", dict := none, data := .seq ([] : List Value).toArray }).objs.size → (h₂.push { cls := .type "list", dict := none, data := .seq ([] : List Value).toArray }).get? b = some o → h₁.get? b = some o) :
    CompHeap g₀ g h₂ h₁ fp h₂.objs.size (h₂.push { cls := .type "list", dict := none, data := .seq ([] : List Value).toArray }).objs.size := by
  have hlt : h₂.objs.size < (h₂.push { cls := .type "list", dict := none, data := .seq ([] : List Value).toArray }).objs.size := by rw [Heap.size_push]; exact Nat.lt_succ_self _
  have hC := Heap.get?_none_of_le (Nat.le_of_lt hlt)
  have gC := Kp.none k2 hC
  exact ⟨Nat.ne_of_lt hlt, fun hm => Nat.lt_irrefl _ (hfp _ hm), fun hm => Nat.lt_asymm hlt (hfp _ hm), fun b o e => up b o (neN e hC) (Heap.get?_push_of_some _ e),
    gC, Kp.none k2 (fresh_size _), Kp.none kg gC, _, up _ _ (Nat.ne_of_lt hlt) (Heap.get?_push_size _ rfl), rfl, _, rfl⟩
inductive CompInv (s₁ : Shared) (N : Nat) (St : Nat → Heap → Prop) (Da C : Addr) (g h₁ : Heap) (wr : List Addr) (out : Nat → List D) (k : Nat) (s' : Shared) : Prop
  | mk (h' : Heap) (tk : Nat) (m' : Str → Option Value) (ys : Array Value) (i : Nat) (e : s' = { s₁ with heap := h', toks := tk }) (hi : i ≤ N) (hk : k = N + 1 - i) (st : St i h') (acc : h'.IsList Da ys) (ns : h'.Ns C m')
    (R : RdAll g (hid Da h') ys.toList (out i)) (sz : ys.size ≤ i) (kp : ∀ b o, b ≠ C → b ∉ wr → b ≠ Da → h₁.get? b = some o → h'.get? b = some o)

theorem comp_core {elt iter : Expr} {x : Str} {px : Pos} {ifs : List Expr} {scope : Scope} {pos p : Pos} {src : List D} {ns ns' : List (Str × NameKind)} {fv : Option (Str × D)} {tst : D → Bool} {f : D → D} {use : Option (Value → Sem Unit)} {Q E : Value → Shared → Prop} {s : Shared}
    (hs : c.ns = ns) (O : c.Ok) (F : Fm c ρ s.heap) (hi : IterEv c ρ iter src) (hsz : src.length ≤ 1000000) (hk : scope.kind = .function) (hx : ns'.lookup x = some .local) (hxs : scope.names.lookup x = some .local)
    (hcell : ∀ y ∈ scope.names, y.2 ≠ .cell) (hnames : ∀ y ∈ scope.names, y.2 = .local → scope.names.lookup y.1 = some .local)
    (hns : (scope.names.map fun x => if (x.2 == NameKind.free && ns.lookup x.1 == some .cell) then (x.1, NameKind.cell) else (x.1, x.2)) = ns')
    (hclos : ∀ env, closureFor scope env = match fv with | none => pure [] | some q => cellOf env q.1 >>= fun a => pure [(q.1, a)])
    (hfv : ∀ q, fv = some q → ρ.lookup q.1 = some q.2 ∧ ns.lookup q.1 = some .cell ∧ ns'.lookup q.1 = some .cell ∧ q.1 ≠ x)
    (hT : ∀ c' : Cx, c'.n = c.n → c'.ns = ns' → ∀ d ∈ src, TestsOk c' ((x, d) :: freeOf ρ fv) ifs (tst d))
    (hE : ∀ c' : Cx, c'.n = c.n → c'.ns = ns' → ∀ d ∈ src, tst d = true → EvX c' ((x, d) :: freeOf ρ fv) elt (f d))
    (hdp : ∀ d ∈ src, tst d = true → (f d).deep = true)
    (hfold : ∀ x, foldedSetIterable iter c.env x = pure x)
    (hfin : ∀ Da C s', Ext s s' → (∃ m, s'.heap.Ns C m) → s.heap.get? C = none → Da ≠ C → (∀ h', Heap.SameBut C s'.heap h' → Rd c.g h' (.ref Da) (.lst ((src.filter tst).map f))) → compPost c.M c.A E use Q (.ref Da) C (.ok .next) s') :
    wpAny c.M c.A (comprehension (.ListComp elt [⟨.Name x px, iter, ifs, 0⟩] scope pos) scope c.env p (newList []) false (eval iter c.env) use) Q E s := by
  obtain ⟨cl, hcl, hcells⟩ : ∃ cl, closureFor scope c.env = pure cl ∧ ∀ q, fv = some q → ∃ a v, cl.lookup q.1 = some a ∧ s.heap.IsCell a (some v) ∧ Rd c.g s.heap v q.2 := by
    cases fv with
    | none => exact ⟨[], hclos _, fun q hq => (nomatch hq)⟩
    | some q =>
      rcases hfv q rfl with ⟨h1, h2, h3, h4⟩
      rcases F.cl q.1 q.2 h1 (by rw [hs]; exact h2) with ⟨a, v, ha, hia, rd⟩
      refine ⟨[(q.1, a)], ?_, fun q' hq' => by cases hq'; exact ⟨a, v, by simp, hia, rd⟩⟩
      rw [hclos]
      show cellOf c.env q.1 >>= _ = _
      have : cellOf c.env q.1 = pure a := by unfold cellOf; rw [ha]
      rw [this]; rfl
  refine wpAny_comprehension_free (use := use) rfl hfold hcl hk hnames ?_
  refine hi.go O s _ _ F fun v s₁ g kg1 kg2 e₁ itb => ?_
  refine itb _ _ fun I fp wr P St h₂ k₂ hwr hfp W hst hwd hP => ?_
  have Fg : Fm c ρ g := F.ext kg1
  have k2 : Kp g h₂ := kg2.trans k₂
  refine wpAny_newObj_type (wpAny_newFunctionEnv hcell (by intro y hy; simp at hy) (fun h₁ hns₁ hsb₁ => ?_) hk)
  dsimp only at hns₁ hsb₁ ⊢
  have CH := compHeap (g₀ := s.heap) (fp := fp) kg1 k2 hfp fun b o hb e => hsb₁.extBut b o hb (Heap.get?_push_of_some _ e)
  generalize (h₂.push { cls := .type "list", dict := none, data := .seq ([] : List Value).toArray }).objs.size = C at CH hns₁ hsb₁ ⊢
  generalize h₂.objs.size = Da at CH ⊢
  clear hsb₁
  rcases CH with ⟨hDC, hDf, hCf, old, hgC, hgD, hsC, hacc⟩
  have hst₁ : St 0 h₁ := W.frame _ _ _ hst fun b _ o e => old b o e
  have O' : (c.inner scope cl C g ns').Ok := inner_ok O F kg1 hs hk hns hgC
  have hkx : (c.inner scope cl C g ns').env.kindOf x = some .local := lookup_relabel_local hxs
  have hfun : (c.inner scope cl C g ns').env.scope.kind = .function := hk
  -- the frame of the turn
  have frame : ∀ (h : Heap) (m : Str → Option Value) (v : Value) (d : D), Kp g h → h.Ns C m → m x = some v → Rd g h v d → Fm (c.inner scope cl C g ns') ((x, d) :: freeOf ρ fv) h := by
    intro h m v d kg hm hmx rd
    refine ⟨⟨m, hm, fun y d' hy hyc => ?_⟩, fun y d' hy hyc => ?_, kg, fun hc => (nomatch hc)⟩
    · rw [List.lookup_cons] at hy
      cases q : (y == x) with
      | true => rw [q] at hy; cases hy; rw [eq_of_beq q]; exact ⟨v, hmx, rd⟩
      | false =>
        rw [q] at hy
        cases fv with
        | none => simp [freeOf] at hy
        | some p =>
          obtain ⟨pn, pd⟩ := p
          rcases hfv _ rfl with ⟨_, _, h3, _⟩
          simp only [freeOf, List.lookup_cons] at hy
          cases q2 : (y == pn) with
          | true => rw [eq_of_beq q2] at hyc; exact absurd h3 hyc
          | false => rw [q2] at hy; simp at hy
    · rw [List.lookup_cons] at hy
      cases q : (y == x) with
      | true =>
        rw [eq_of_beq q] at hyc
        have hyc : ns'.lookup x = some .cell := hyc
        rw [hx] at hyc; cases hyc
      | false =>
        rw [q] at hy
        cases fv with
        | none => simp [freeOf] at hy
        | some p =>
          obtain ⟨pn, pd⟩ := p
          simp only [freeOf, List.lookup_cons] at hy
          cases q2 : (y == pn) with
          | true =>
            rw [q2] at hy
            cases hy
            rcases hcells _ rfl with ⟨a, v', ha, hia, rv⟩
            refine ⟨a, v', by rw [eq_of_beq q2]; exact ha, hia.keeps (kg1.trans kg), rv.mono Fg.keep fun b o e _ => kg _ _ (kg1 _ _ e)⟩
          | false => rw [q2] at hy; simp at hy
  have hout : ∀ i d, src[i]? = some d → (((src.take (i + 1)).filter tst).map f) = ((src.take i).filter tst).map f ++ (if tst d then [f d] else []) := by
    intro i d hd
    rw [take_succ_filter tst src i d hd, List.map_append]
    cases tst d <;> rfl
  have loop : ∀ s₃ : Shared, s₃ = { s₁ with heap := h₁, toks := s₁.toks + ([] : List (Str × Value)).length } →
      codeAny c.M c.A (.compLoop (.ListComp elt [⟨.Name x px, iter, ifs, 0⟩] scope pos) 0 (.ref I) (.ref Da) (c.inner scope cl C g ns').env) (compPost c.M c.A E use Q (.ref Da) C) s₃ := by
    rintro s₃ rfl
    refine codeAny_compLoop_tests
      (CompInv s₁ src.length St Da C g h₁ wr fun i => ((src.take i).filter tst).map f) ?_ (src.length + 1)
      ⟨h₁, _, _, #[], 0, rfl, Nat.zero_le _, rfl, hst₁, hacc, hns₁, by simpa using RdAll.nil, Nat.le_refl _, fun _ _ _ _ _ e => e⟩
    rintro k s' ⟨H, tk, m', ys, i, rfl, hi, rfl, hst', hacc', hn', hR, hys, hkp⟩
    have hCw : C ∉ wr := fun h => hCf (W.sub _ h)
    have hDw : Da ∉ wr := fun h => hDf (W.sub _ h)
    have kgH : Kp g H := fun b o e => hkp b o (neN e hgC) (fun q => some_none (e.symm.trans (hwr b q))) (neN e hgD) (old _ _ (k2 _ _ e))
    by_cases hlt : i < src.length
    · refine W.item i _ _ _ hlt hst' fun v H₁ tk₁ hPv hst₂ hk₂ => ?_
      obtain ⟨d, hd⟩ : ∃ d, src[i]? = some d := ⟨_, List.getElem?_eq_getElem hlt⟩
      have hmem : d ∈ src := List.mem_of_getElem? hd
      refine wpAny_assign_Name (wpAny_storeName_local hkx (hn'.at' fun o e => hk₂ _ o hCw e) (fun H₂ hn₂ hs₂ => ?_) (by rw [hfun]; rfl))
      have up₂ : ∀ b o, b ≠ C → b ∉ wr → H.get? b = some o → H₂.get? b = some o := fun b o hbC hbw e => hs₂.extBut b o hbC (hk₂ b o hbw e)
      have kg₂ : Kp g H₂ := fun b o e => up₂ b o (neN e hgC) (fun q => some_none (e.symm.trans (hwr b q))) (kgH _ _ e)
      have F₂ := frame H₂ _ v d kg₂ hn₂ (by simp) (hP i v d hPv hd H₂ kg₂)
      have hst₂' : St (i + 1) H₂ := W.frame _ _ _ hst₂ fun b hb o e => hs₂.extBut b o (fun q => hCf (by have q : b = C := q; rw [← q]; exact hb)) e
      have ht := hT (c.inner scope cl C g ns') rfl rfl d hmem
      refine wpAny_mono (?_ : wpAny _ _ _ (fun b s' => b = tst d ∧ Ext { s₁ with heap := H₂, toks := tk₁ + 1 } s') _ _) (fun b s₃ hb => ?_) (fun _ _ x => x)
      · match ifs, ht with
        | [], ht => exact wpAny_tests_nil ⟨(show tst d = true from ht).symm, Ext.refl _⟩
        | [t], ht => exact wpAny_tests_one (Tr.go ht O' _ _ _ F₂ fun s' x' => ⟨rfl, x'⟩)
        | _ :: _ :: _, ht => exact ht.elim
      obtain ⟨rfl, x₃⟩ := hb
      obtain ⟨H₃, tk₃, rfl⟩ := (Same.mk' (s := s₁) (h := H₂) (t := tk₁ + 1)).trans x₃.same
      have kp₃ : Kp H₂ H₃ := x₃.keep
      have F₃ := F₂.ext kp₃
      have hst₃ : St (i + 1) H₃ := W.frame _ _ _ hst₂' fun b _ o e => kp₃ b o e
      have hn₃ := hn₂.keeps kp₃
      have hacc₃ : H₃.IsList Da ys := by
        rcases hacc' with ⟨oa, hoa, ra⟩
        exact ⟨oa, kp₃ _ _ (up₂ _ _ hDC hDw hoa), ra⟩
      have kp' : ∀ b o, b ≠ C → b ∉ wr → b ≠ Da → h₁.get? b = some o → H₃.get? b = some o := fun b o h1 h2 h3 e => kp₃ _ _ (up₂ _ _ h1 h2 (hkp b o h1 h2 h3 e))
      have hseq : ∀ (h : Heap), (∀ b o, b ≠ C → b ∉ wr → b ≠ Da → H.get? b = some o → h.get? b = some o) → RdAll g (hid Da h) ys.toList (((src.take i).filter tst).map f) := by
        intro h hh
        refine hR.mono (.refl _) fun b o e hq => ?_
        obtain ⟨e1, e2⟩ := of_hid e
        refine hid_get (hh b o (fun q => ?_) (fun q => ?_) e2 e1) e2
        · rcases hn' with ⟨oC, es, ep, hoC, hdC, _⟩
          rw [q, hoC] at e1; cases e1
          rcases hq with ⟨ws, nn, hq⟩
          rw [hdC] at hq; cases hq
        · rcases hq with ⟨ws, nn, hq⟩
          exact hwd i H b o hst' q e1 ws nn hq
      cases htd : tst d with
      | false =>
        rw [if_neg (by decide)]
        refine ⟨src.length + 1 - (i + 1), ctr hlt, H₃, tk₃, _, ys, i + 1, rfl, hlt, rfl, hst₃, hacc₃, hn₃, ?_, Nat.le_succ_of_le hys, kp'⟩
        rw [hout i d hd, htd]
        simp only [Bool.false_eq_true, if_false, List.append_nil]
        exact hseq _ fun b o h1 h2 h3 e => kp₃ _ _ (up₂ _ _ h1 h2 e)
      | true =>
        rw [if_pos rfl]
        refine (hE (c.inner scope cl C g ns') rfl rfl d hmem htd).go O' { s₁ with heap := H₃, toks := tk₃ } _ _ F₃ fun y s₄ x₄ hy => ?_
        obtain ⟨H₄, tk₄, rfl⟩ := (Same.mk' (s := s₁) (h := H₃) (t := tk₃)).trans x₄.same
        have kp₄ : Kp H₃ H₄ := x₄.keep
        rcases id hacc₃ with ⟨oa, hoa, hca, nna, hda⟩
        have hy' := hy Da oa hoa hca
        have hacc₄ : H₄.IsList Da ys := ⟨oa, kp₄ _ _ hoa, hca, nna, hda⟩
        refine wpAny_list_append (s := { s₁ with heap := H₄, toks := tk₄ }) hacc₄ (fun H₅ hl₅ hs₅ => ?_) (by rw [sizeLine_eq]; (first | lia | omega))
        have k45 : ∀ b o, b ≠ Da → H₄.get? b = some o → H₅.get? b = some o := fun b o hb e => hs₅.extBut b o hb e
        refine ⟨src.length + 1 - (i + 1), ctr hlt, H₅, tk₄, _, ys.push y, i + 1, rfl, hlt, rfl, ?_, hl₅, (hn₃.keeps kp₄).sameBut hs₅ (Ne.symm hDC), ?_, by rw [Array.size_push]; exact Nat.succ_le_succ hys, fun b o h1 h2 h3 e => k45 b o h3 (kp₄ _ _ (kp' b o h1 h2 h3 e))⟩
        · exact W.frame _ _ H₅ hst₃ fun b hb o e => k45 b o (fun q => hDf (q ▸ hb)) (kp₄ b o e)
        · rw [hout i d hd, htd]
          rw [Array.toList_push]
          refine RdAll.snoc (hseq _ fun b o h1 h2 h3 e => k45 b o h3 (kp₄ _ _ (kp₃ _ _ (up₂ _ _ h1 h2 e)))) ?_
          refine hy'.mono (.refl _) fun b o e _ => ?_
          obtain ⟨e1, e2⟩ := of_hid e
          exact hid_get (k45 b o e2 e1) e2
    · have hin : i = src.length := Nat.le_antisymm hi (Nat.not_lt.mp hlt)
      subst hin
      rw [List.take_of_length_le (Nat.le_refl _)] at hR
      refine W.done _ _ _ hst' fun H₁ tk₁ hk₁ => ?_
      refine hfin Da C _ ⟨?_, e₁.trans (Same.mk' (s := s₁))⟩ ⟨_, hn'.at' fun o e => hk₁ _ o hCw e⟩ hsC hDC fun h' hs' => ?_
      · exact fun b o e => hk₁ b o (fun q => by have := kg1 _ _ e; rw [hwr b q] at this; cases this) (kgH _ _ (kg1 _ _ e))
      · rcases hacc' with ⟨oa, hoa, hca, nna, hda⟩
        have e1 : h'.get? Da = some oa := hs'.extBut _ _ hDC (hk₁ _ _ hDw hoa)
        refine .lst e1 hca hda (RdAll.any ?_ (hR.unhid (h' := h') fun b o hb e hq => ?_))
        · have : ∀ l : List D, (∀ d ∈ l, tst d = true → (f d).deep = true) → D.deepAll ((l.filter tst).map f) = true := by
            intro l
            induction l with
            | nil => intro _; rfl
            | cons d l ih =>
              intro h
              rw [List.filter_cons]
              split
              · rename_i q
                simp only [List.map_cons, D.deepAll, Bool.and_eq_true]
                exact ⟨h d (.head _) q, ih fun e he => h e (.tail _ he)⟩
              · exact ih fun e he => h e (.tail _ he)
          exact this src hdp
        · rcases hn' with ⟨oC, es, ep, hoC, hdC, _⟩
          rcases hq with ⟨ws, nn, hq⟩
          refine hs'.extBut _ _ (fun q => ?_) (hk₁ _ _ (fun q => hwd _ H b o hst' q e ws nn hq) e)
          rw [q, hoC] at e; cases e; rw [hdC] at hq; cases hq
  exact codeAny_compStart_list (loop _ rfl) (W.self 0 _ _ _ hst₁ (loop _ rfl))
end
end Mine
end
section
open PySem PySem.W PySem.Calls PyProof.Rows
set_option Elab.async false
set_option maxRecDepth 100000
set_option linter.unusedVariables false
namespace Mine
section
variable {c : Cx} {ρ : List (Str × D)} {o : Out}
theorem Fm.sameC {C : Addr} {h h' : Heap} (F : Fm c ρ h) (hC : ∃ o es ep, h.get? C = some o ∧ o.data = .dict es ep) (hL : c.env.locals ≠ C) (hg : c.g.get? C = Option.none) (hs : ∀ b o, b ≠ C → h.get? b = some o → h'.get? b = some o) : Fm c ρ h' := by
  rcases hC with ⟨oC, es, ep, hoC, hdC⟩
  rcases F.ns with ⟨m, ⟨oL, es', ep', hLo, r⟩, b⟩
  have kd : ∀ a o, h.get? a = some o → (∃ vs n, o.data = .seq vs n) → h'.get? a = some o := fun a o e hq => hs a o (neSeq e hoC hdC hq (fun _ _ z => nomatch z)) e
  refine ⟨⟨m, ⟨oL, es', ep', hs _ _ hL hLo, r⟩, fun x d e hc => ?_⟩, fun x d e hc => ?_, fun a o e => hs a o (neN e hg) (F.keep a o e), fun hc x hx => ?_⟩
  · rcases b x d e hc with ⟨v, h1, h2⟩
    exact ⟨v, h1, h2.mono (.refl _) kd⟩
  · rcases F.cl x d e hc with ⟨a, v, h1, ⟨oc, hoc, hcd⟩, h3⟩
    exact ⟨a, v, h1, ⟨oc, hs a oc (neD hoc hoC hdC hcd (fun z => nomatch z)) hoc, hcd⟩, h3.mono (.refl _) kd⟩
  · rcases F.ce hc x hx with ⟨a, v, h1, ⟨oc, hoc, hcd⟩, h3⟩
    exact ⟨a, v, h1, ⟨oc, hs a oc (neD hoc hoC hdC hcd (fun z => nomatch z)) hoc, hcd⟩, h3⟩
/-- what a comprehension wants of its parts -/
structure CompOk (c : Cx) (ρ : List (Str × D)) (elt iter : Expr) (x : Str) (ifs : List Expr) (scope : Scope) (src : List D) (tst : D → Bool) (f : D → D) : Prop where
  run : ∀ {px pos p : Pos} {use : Option (Value → Sem Unit)} {Q E : Value → Shared → Prop} {s : Shared}, c.Ok → Fm c ρ s.heap →
    (∀ Da C s', Ext s s' → (∃ m, s'.heap.Ns C m) → s.heap.get? C = none → Da ≠ C → (∀ h', Heap.SameBut C s'.heap h' → Rd c.g h' (.ref Da) (.lst ((src.filter tst).map f))) → compPost c.M c.A E use Q (.ref Da) C (.ok .next) s') →
    wpAny c.M c.A (comprehension (.ListComp elt [⟨.Name x px, iter, ifs, 0⟩] scope pos) scope c.env p (newList []) false (eval iter c.env) use) Q E s
theorem CompOk.mk0 {elt iter : Expr} {x : Str} {ifs : List Expr} {scope : Scope} {src : List D} {ns : List (Str × NameKind)} {tst : D → Bool} {f : D → D}
    (hs : c.ns = ns) (hi : IterEv c ρ iter src) (hsz : src.length ≤ 1000000) (hk : scope.kind = .function) (hxs : scope.names.lookup x = some .local)
    (hcell : (scope.names.all fun y => y.2 != .cell && y.2 != .free) = true) (hnames : (scope.names.all fun y => y.2 != .local || scope.names.lookup y.1 == some .local) = true)
    (hclos : ∀ env, closureFor scope env = pure [])
    (hT : ∀ c' : Cx, c'.n = c.n → c'.ns = scope.names → ∀ d ∈ src, TestsOk c' [(x, d)] ifs (tst d))
    (hE : ∀ c' : Cx, c'.n = c.n → c'.ns = scope.names → ∀ d ∈ src, tst d = true → EvX c' [(x, d)] elt (f d))
    (hdp : ∀ d ∈ src, tst d = true → (f d).deep = true)
    (hfold : autoParam (∀ env x, foldedSetIterable iter env x = pure x) aiRfl) : CompOk c ρ elt iter x ifs scope src tst f := by
  refine ⟨fun O F hfin => ?_⟩
  have hc : ∀ y ∈ scope.names, y.2 ≠ .cell ∧ y.2 ≠ .free := fun y hy => by
    have := List.all_eq_true.mp hcell y hy
    simpa using this
  refine comp_core (ns' := scope.names) (fv := none) hs O F hi hsz hk hxs hxs (fun y hy => (hc y hy).1) (fun y hy hl => ?_) ?_ (fun env => hclos env) (fun q hq => (nomatch hq)) hT hE hdp (hfold _) hfin
  · have := List.all_eq_true.mp hnames y hy
    simp [hl] at this
    exact this
  · have : ∀ l : List (Str × NameKind), (∀ y ∈ l, y.2 ≠ .free) → (l.map fun x => if (x.2 == NameKind.free && ns.lookup x.1 == some .cell) then (x.1, NameKind.cell) else (x.1, x.2)) = l := by
      intro l h
      refine (List.map_congr_left (g := id) fun y hy => ?_).trans (List.map_id l)
      rw [show (y.2 == NameKind.free) = false by simpa using h y hy]; rfl
    exact this _ fun y hy => (hc y hy).2
theorem CompOk.mk1 {elt iter : Expr} {x n : Str} {dn : D} {ifs : List Expr} {scope : Scope} {src : List D} {ns ns' : List (Str × NameKind)} {tst : D → Bool} {f : D → D}
    (hs : c.ns = ns) (hi : IterEv c ρ iter src) (hsz : src.length ≤ 1000000) (hk : scope.kind = .function) (hx : ns'.lookup x = some .local) (hxs : scope.names.lookup x = some .local)
    (hcell : (scope.names.all fun y => y.2 != .cell) = true) (hnames : (scope.names.all fun y => y.2 != .local || scope.names.lookup y.1 == some .local) = true)
    (hns : (scope.names.map fun x => if (x.2 == NameKind.free && ns.lookup x.1 == some .cell) then (x.1, NameKind.cell) else (x.1, x.2)) = ns')
    (hclos : ∀ env, closureFor scope env = cellOf env n >>= fun a => pure [(n, a)])
    (hn : ρ.lookup n = some dn) (hn2 : ns.lookup n = some .cell) (hn3 : ns'.lookup n = some .cell) (hnx : n ≠ x)
    (hT : ∀ c' : Cx, c'.n = c.n → c'.ns = ns' → ∀ d ∈ src, TestsOk c' [(x, d), (n, dn)] ifs (tst d))
    (hE : ∀ c' : Cx, c'.n = c.n → c'.ns = ns' → ∀ d ∈ src, tst d = true → EvX c' [(x, d), (n, dn)] elt (f d))
    (hdp : ∀ d ∈ src, tst d = true → (f d).deep = true)
    (hfold : autoParam (∀ env x, foldedSetIterable iter env x = pure x) aiRfl) : CompOk c ρ elt iter x ifs scope src tst f := by
  refine ⟨fun O F hfin => ?_⟩
  refine comp_core (ns' := ns') (fv := some (n, dn)) hs O F hi hsz hk hx hxs (fun y hy => ?_) (fun y hy hl => ?_) hns (fun env => hclos env) (fun q hq => by cases hq; exact ⟨hn, hn2, hn3, hnx⟩) hT hE hdp (hfold _) hfin
  · have := List.all_eq_true.mp hcell y hy
    simpa using this
  · have := List.all_eq_true.mp hnames y hy
    simp [hl] at this
    exact this
theorem Ev.comp {elt iter : Expr} {x : Str} {px pos : Pos} {ifs : List Expr} {scope : Scope} {src : List D} {tst : D → Bool} {f : D → D} (h : CompOk c ρ elt iter x ifs scope src tst f) :
    Ev c ρ (.ListComp elt [⟨.Name x px, iter, ifs, 0⟩] scope pos) (some (.lst ((src.filter tst).map f))) := by
  refine ⟨fun O s Q E F hQ _ => ?_⟩
  rw [eval_ListComp]
  refine h.run (use := Option.none) O F fun Da C s' x' hns hC hDC hr => ?_
  obtain ⟨m, hns⟩ := hns
  exact ⟨m, hns, fun h' hs' => hQ _ _ _ rfl ⟨fun b o e => hs'.extBut b o (neN e hC) (x'.keep b o e), x'.same.trans ⟨h', _, rfl⟩⟩ (hr h' hs')⟩
set_option maxHeartbeats 2000000 in
/-- y = [.. for x in ..] -/
theorem Exs.assignComp {elt iter : Expr} {x y : Str} {px py pos spos : Pos} {ifs : List Expr} {scope : Scope} {src : List D} {tst : D → Bool} {f : D → D} {ns : List (Str × NameKind)} {rest : List Stmt} (h : CompOk c ρ elt iter x ifs scope src tst f)
    (hs : c.ns = ns) (hy : ns.lookup y = some .local)
    (hsw : ∀ env : Env, env.blockKind = .function → env.kindOf y = some .local → swapsWith (.ListComp elt [⟨.Name x px, iter, ifs, 0⟩] scope pos) (some (.Name y py)) spos.line env = pure true)
    (hr : Exs c ((y, .lst ((src.filter tst).map f)) :: ρ) rest o) : Exs c ρ (.Assign [.Name y py] (.ListComp elt [⟨.Name x px, iter, ifs, 0⟩] scope pos) spos :: rest) o := by
  refine Exs.cons (ρ' := (y, .lst ((src.filter tst).map f)) :: ρ) ⟨fun O s Q E F hq => ?_⟩ hr
  rw [exec_Assign_Name_used _ _ _ _ (hsw _ (by simp only [Env.blockKind, O.kind]; rfl) (O.kindOf hs hy))]
  refine wpAny_bind (wpAny_standAt (wpAny_bind ?_))
  show wpAny _ c.A (do let _ ← comprehension (.ListComp elt [⟨.Name x px, iter, ifs, 0⟩] scope pos) scope c.env _ (newList []) false (eval iter c.env) (some (PySem.assign (PySem.Expr.Name y py) c.env))) _ _ s
  refine wpAny_bind (wpAny_mono (h.run (use := some (PySem.assign (PySem.Expr.Name y py) c.env)) (Q := fun _ s' => Q .next s') O F fun Da C s' x' hns hC hDC hrd => ?_) (fun _ s' hq => wpAny_pure (wpAny_pure hq)) fun _ _ e => e)
  obtain ⟨m, hns⟩ := hns
  have F' := F.ext x'.keep
  have hLC : c.env.locals ≠ C := fun q => by
    rcases F.ns with ⟨mL, ⟨oL, es, ep, hL, _⟩, _⟩
    rw [q, hC] at hL; cases hL
  show wpAny c.M c.A (PySem.assign (PySem.Expr.Name y py) c.env (Value.ref Da)) _ _ _
  refine assign_name_ok O F' (hrd _ (Heap.SameBut.refl ..)) (hs ▸ hy) fun s₂ kl e₂ F₂ => ?_
  refine ⟨m, ?_, fun h' hs' => ?_⟩
  · rcases hns with ⟨oC, es, ep, hoC, r⟩
    exact ⟨oC, es, ep, kl _ _ (Ne.symm hLC) (fun v q => by rw [r.1] at q; cases q) hoC, r⟩
  · have kc : ∀ b o, b ≠ C → s₂.heap.get? b = some o → h'.get? b = some o := fun b o hb e => hs'.extBut b o hb e
    refine hq.1 _ _ rfl (fun b o hb hq e => kc b o (neN e hC) (kl b o hb hq (x'.keep b o e))) (x'.same.trans (e₂.trans ⟨h', _, rfl⟩)) ?_
    exact F₂.sameC (C := C) (by obtain ⟨oC, es, ep, hoC, hdC, _⟩ := hns; exact ⟨oC, es, ep, kl _ _ (Ne.symm hLC) (fun v q => by rw [hdC] at q; cases q) hoC, hdC⟩) hLC (by cases q : c.g.get? C with | none => rfl | some o => (have := F.keep _ _ q; rw [hC] at this; cases this)) kc
end
end Mine
end
section
open PySem PySem.W PySem.Calls PyProof.Rows
set_option Elab.async false
set_option maxRecDepth 100000
set_option linter.unusedVariables false
namespace Mine
theorem bindL_look {k : Str → Option NameKind} {x : Str} (hx : k x = some .local) : ∀ (binds : List (Str × Value)) (m : Str → Option Value), bindL k binds m x = (binds.reverse.lookup x).or (m x)
  | [], m => by simp [bindL]
  | (n, v) :: r, m => by
    rw [bindL, bindL_look hx r, List.reverse_cons, List.lookup_append]
    by_cases q : x = n
    · subst q
      rw [if_pos hx]
      simp
    · have : (x == n) = false := beq_eq_false_iff_ne.mpr q
      split <;> simp [List.lookup_cons, this, q]
theorem bindC_look {k : Str → Option NameKind} {x : Str} (hx : k x ≠ some .local) : ∀ (binds : List (Str × Value)) (m : Str → Option Value), bindC k binds m x = (binds.reverse.lookup x).or (m x)
  | [], m => by simp [bindC]
  | (n, v) :: r, m => by
    rw [bindC, bindC_look hx r, List.reverse_cons, List.lookup_append]
    by_cases q : x = n
    · subst q
      rw [if_neg hx]
      simp
    · have : (x == n) = false := beq_eq_false_iff_ne.mpr q
      split <;> simp [List.lookup_cons, this, q]
theorem CallOk.cell {n : Nat} {f : Addr} {ds : List D} {r : Option D} {name : Str} {params : Arguments} {body : List Stmt} {scope : Scope} {ps : Pos} (i : Nat) (xs : List Str)
    (hg : ∀ P, nsIn (Ks P) mainGlobals name = some (some (.ref f)))
    (hst : P0.main.body[i]? = some (PySem.Stmt.FunctionDef name params body [] none [] scope none name ps))
    (hbind : ∀ (vs : List Value) (pm cd doc : Value), vs.length = ds.length → bindArgs (docDef name params body scope pm cd doc) ⟨vs, []⟩ = Pure.pure (xs.zip vs))
    (hloc : (xs.all fun x => decide (scope.names.lookup x = some .local) || decide (scope.names.lookup x = some .cell)) = true)
    (hcl : ∀ k x, scope.names.lookup x = some .cell → ((cellsFrom k scope.names []).lookup x).isSome = true)
    (hk : scope.kind = .function) (hco : scope.isCoroutine = false) (hgen : scope.isGenerator = false)
    (hdeep : ∀ d, r = some d → d.deep = true)
    (h : ∀ c : Cx, c.n = n → c.ns = scope.names → c.comp = false → Exs c (xs.zip ds).reverse body (outOf r)) : CallOk (n + 1) (.ref f) ds r := by
  refine ⟨fun w h hsta => ?_, ?_⟩
  · rcases hsta.fn _ _ _ _ _ _ hst with ⟨f', fo, pm, cd, doc, ⟨mg, hmg, hmf⟩, ho', hod, hcd⟩
    rw [mg_of hsta.inK hmg (hg _)] at hmf
    cases hmf
    refine ⟨.frame, .inl rfl, (Looks.ld (part := Option.none) ho').andThen ?_⟩
    rw [hod]
    exact .now
  intro w A base outer s vs Q E hA hd hu hfr hfun hst' hsta hrd hQ hE
  rcases hsta.fn _ _ _ _ _ _ hst with ⟨f', fo, pm, cd, doc, ⟨mg, hmg, hmf⟩, ho', hod, hcd⟩
  rw [mg_of hsta.inK hmg (hg _)] at hmf
  cases hmf
  have hlen := hrd.length
  have hlc : ∀ x ∈ xs, scope.names.lookup x = some .local ∨ scope.names.lookup x = some .cell := fun x hx => by
    have := List.all_eq_true.mp hloc x hx
    simpa using this
  refine wpAny_call ?_
  refine codeAny_call_cells (fd := docDef name params body scope pm cd doc) (body := body) (by (first | lia | omega)) ho' hod hsta.nolimit hcd rfl (hbind vs pm cd doc hlen) rfl (fun x hx => ?_) (fun s₁ I => ?_) hco hgen hk
  · obtain h1 | h1 := hlc x.1 (List.of_mem_zip (a := x.1) (b := x.2) hx).1
    · exact .inl h1
    · exact .inr ⟨h1, hcl _ _ h1⟩
  rcases I.done with ⟨h₀, tk₀, e₀, hk₀⟩
  have hns := I.toInCall.ns
  let env := callEnvC (docDef name params body scope pm cd doc) s.heap.objs.size f
  let c : Cx := ⟨w, A.deeper env, env, s.heap, base, outer, n, scope.names, env :: outer, false⟩
  have O : c.Ok := ⟨hk, rfl, rfl, rfl, fun _ => rfl, hA, by show A.depth + 1 + n < _; (first | lia | omega), by show A.units + 3 + 10 * n + 100 < _; (first | lia | omega), Around.frames_deeper hfr, fun _ => rfl, fun _ => hfun, fun h => (nomatch h), hst', hsta, fresh_size _⟩
  have kf : ∀ x, (callEnvC (docDef name params body scope pm cd doc) s.heap.objs.size f).kindOf x = scope.names.lookup x := fun x => rfl
  subst e₀
  have look : ∀ x d, (xs.zip ds).reverse.lookup x = some d → ∃ v, (xs.zip vs).reverse.lookup x = some v ∧ Rd s.heap h₀ v d := fun x d hx => ((Env2.zip (hrd.keeps hk₀)).reverse).look hx
  have F : Fm c (xs.zip ds).reverse h₀ := by
    refine ⟨⟨_, hns, fun x d hx hc => ?_⟩, fun x d hx hc => ?_, hk₀, fun _ x hc => ?_⟩
    · rcases look x d hx with ⟨v, hv, rd⟩
      have hxl : scope.names.lookup x = some .local := by
        have hm : x ∈ xs := by
          have : ∀ (l : List Str) (l' : List D), (l.zip l').reverse.lookup x = some d → x ∈ l := by
            intro l l' hl
            have h2 : (x, d) ∈ (l.zip l').reverse := by
              have : ∀ (q : List (Str × D)), q.lookup x = some d → (x, d) ∈ q := by
                intro q
                induction q with
                | nil => intro h; simp at h
                | cons p q ih =>
                  intro h
                  rw [List.lookup_cons] at h
                  split at h
                  · rename_i hb
                    cases h
                    rw [eq_of_beq hb]
                    exact .head _
                  · exact .tail _ (ih h)
              exact this _ hl
            exact (List.of_mem_zip (List.mem_reverse.mp h2)).1
          exact this xs ds hx
        obtain h1 | h1 := hlc x hm
        · exact h1
        · exact absurd h1 hc
      refine ⟨v, ?_, rd⟩
      rw [bindL_look (by rw [kf]; exact hxl), hv]
      rfl
    · rcases look x d hx with ⟨v, hv, rd⟩
      obtain ⟨a, ha⟩ := Option.isSome_iff_exists.mp (hcl (s.heap.objs.size + 1) x hc)
      have := I.cell x a ha
      rw [bindC_look (by rw [kf]; have hc : scope.names.lookup x = some .cell := hc; rw [hc]; decide), hv] at this
      exact ⟨a, v, ha, this, rd⟩
    · obtain ⟨a, ha⟩ := Option.isSome_iff_exists.mp (hcl (s.heap.objs.size + 1) x hc)
      refine ⟨a, _, ha, I.cell x a ha, ?_⟩
      have hab := I.above x a (mem_of_lookup ha)
      cases q : s.heap.get? a with
      | none => rfl
      | some o => exact absurd (Heap.lt_size q) (Nat.not_lt.mpr (Nat.le_of_lt hab))
  refine (h c rfl rfl rfl).go O { s with heap := h₀, toks := tk₀ } _ _ F ⟨?_, ?_, ?_⟩
  · intro ρ' s' hq
    cases r <;> cases hq
  · intro v s' d hq kl hs kg rd
    cases r with
    | none => cases hq
    | some d' =>
      cases hq
      refine hQ v s' _ rfl ⟨kg, (Same.mk' (s := s)).trans hs⟩ fun g => rd.any (hdeep _ rfl)
  · intro e s' hq hs hl
    cases r with
    | some d' => cases hq
    | none =>
      obtain ⟨a, rfl, hl⟩ := hl
      refine hl rfl _ _ fun h' t x1 x2 => ?_
      obtain ⟨h1, t1, rfl⟩ := (Same.mk' (s := s)).trans hs
      exact hE a t _ rfl x1 x2 ⟨h', t1, rfl⟩
section
variable {c : Cx} {ρ : List (Str × D)} {o : Out}
/-- x = e, x a cell: the frame's only one -/
theorem Exs.assignCell {x : Str} {e : Expr} {xp pos : Pos} {d : D} {ns : List (Str × NameKind)} {rest : List Stmt} (h : Ev c ρ e (some d)) (hs : c.ns = ns) (hk : ns.lookup x = some .cell) (hone : ∀ y, ns.lookup y = some .cell → y = x) (hcomp : c.comp = false)
    (hr : Exs c ((x, d) :: ρ) rest o) (hw : autoParam (∀ env, swapsWith e (some (.Name x xp)) pos.line env = pure false) aiRfl) : Exs c ρ (.Assign [.Name x xp] e pos :: rest) o := by
  refine Exs.cons (ρ' := (x, d) :: ρ) ⟨fun O s Q E F hq => ?_⟩ hr
  refine wpAny_Assign_Name (h.go O s _ E F (fun v s₁ d' hr x₁ rd => ?_) (fun _ _ hr => by cases hr)) (hw _)
  cases hr
  have F₁ := F.ext x₁.keep
  rcases F₁.ce hcomp x (by rw [hs]; exact hk) with ⟨a, v₀, ha, hia, hga⟩
  refine wpAny_storeName_cell O.kind (O.kindOf hs hk) ha hia fun h' hc' hsb => ?_
  have kc : ∀ b o, b ≠ a → s₁.heap.get? b = some o → h'.get? b = some o := fun b o hb e => hsb.extBut b o hb e
  rcases hia with ⟨oc, hoc, hcd⟩
  have kd : ∀ b o, s₁.heap.get? b = some o → (∃ vs n, o.data = .seq vs n) → h'.get? b = some o := fun b o e hq => kc b o (neSeq e hoc hcd hq (fun _ _ z => nomatch z)) e
  refine hq.1 _ _ rfl ((KpL.of x₁.keep).trans fun b o hb hnc e => kc b o (fun q => by rw [q, hoc] at e; cases e; exact hnc _ hcd) e) (x₁.same.trans ⟨h', _, rfl⟩) ?_
  rcases F₁.ns with ⟨m, hm, hr⟩
  refine ⟨⟨m, ?_, fun y d' hy hyc => ?_⟩, fun y d' hy hyc => ?_, fun b o e => kc b o (neN e hga) (F₁.keep b o e), fun hc y hy => ?_⟩
  · rcases hm with ⟨oL, es, ep, hL, hLd, r⟩
    exact ⟨oL, es, ep, kc _ _ (neD hL hoc hcd hLd (fun z => nomatch z)) hL, hLd, r⟩
  · rw [List.lookup_cons] at hy
    cases q : (y == x) with
    | true => rw [eq_of_beq q, hs] at hyc; exact absurd hk hyc
    | false =>
      rw [q] at hy
      rcases hr y d' hy hyc with ⟨v', h1, h2⟩
      exact ⟨v', h1, h2.mono (.refl _) kd⟩
  · have hyx := hone y (by rw [← hs]; exact hyc)
    subst hyx
    rw [List.lookup_cons, beq_self_eq_true] at hy
    cases hy
    exact ⟨a, v, ha, hc', rd.mono (.refl _) kd⟩
  · have hyx := hone y (by rw [← hs]; exact hy)
    subst hyx
    exact ⟨a, _, ha, hc', hga⟩
end
end Mine
end
section
open PySem PySem.W PySem.Calls PyProof.Rows
set_option Elab.async false
set_option maxRecDepth 100000
set_option linter.unusedVariables false
namespace Mine
noncomputable
def isStar : Expr → Bool
  | .Starred .. => true
  | _ => false
theorem swapped2 {x y : Str} {px py : Pos} {k vk : Nat} {tp vp : Pos} {e1 e2 : Expr} {env : Env} (hb : env.blockKind = .function) (hx : env.kindOf x = some .local) (hy : env.kindOf y = some .local)
    (hl : (py.line == px.line) = true) (hd : ([x, y] : List Str).eraseDups.length = 2) (hst : ([e1, e2].any fun | .Starred .. => true | _ => false) = false) (hf : ([e1, e2].all (foldedForSure 8)) = false) (hc : ([e1, e2].all (constantsAlone 8)) = false) :
    swappedStores [.Tuple [.Name x px, .Name y py] k tp] (.Tuple [e1, e2] vk vp) env = pure (some [x, y]) := by
  have hl' : py.line = px.line := by simpa using hl
  have hp : (Expr.Name x px).pos = px := rfl
  have hn : ([.Name x px, .Name y py] : List Expr).filterMap (fun
    | .Name id pos => if env.kindOf id == some .local && pos.line == ((([.Name x px, .Name y py] : List Expr).head?.map (·.pos.line)).getD 0) then some id else none
    | _ => none) = [x, y] := by
    simp [List.filterMap_cons, hx, hy, hp, hl']
  unfold swappedStores
  simp only [hf, hc, hb]
  simp only [List.length_cons, List.length_nil]
  generalize hL : List.filterMap _ _ = L
  have hL2 : L = [x, y] := hL.symm.trans hn
  subst hL2
  rw [if_neg (by decide)]
  rw [if_neg (fun h => by have := h.symm.trans hst; cases this)]
  rw [if_neg (by rw [hd]; simp)]
  rfl
theorem swapped3 {x y z : Str} {px py pz : Pos} {k vk : Nat} {tp vp : Pos} {e1 e2 e3 : Expr} {env : Env} (hb : env.blockKind = .function) (hx : env.kindOf x = some .local) (hy : env.kindOf y = some .local) (hz : env.kindOf z = some .local)
    (hl : (py.line == px.line && pz.line == px.line) = true) (hd : ([x, y, z] : List Str).eraseDups.length = 3) (hst : ([e1, e2, e3].any fun | .Starred .. => true | _ => false) = false) (hf : ([e1, e2, e3].all (foldedForSure 8)) = false) (hc : ([e1, e2, e3].all (constantsAlone 8)) = false) :
    swappedStores [.Tuple [.Name x px, .Name y py, .Name z pz] k tp] (.Tuple [e1, e2, e3] vk vp) env = pure (some [x, y, z]) := by
  obtain ⟨hl', hl2⟩ : py.line = px.line ∧ pz.line = px.line := by simpa using hl
  have hp : (Expr.Name x px).pos = px := rfl
  have hn : ([.Name x px, .Name y py, .Name z pz] : List Expr).filterMap (fun
    | .Name id pos => if env.kindOf id == some .local && pos.line == ((([.Name x px, .Name y py, .Name z pz] : List Expr).head?.map (·.pos.line)).getD 0) then some id else none
    | _ => none) = [x, y, z] := by
    simp [List.filterMap_cons, hx, hy, hz, hp, hl', hl2]
  unfold swappedStores
  simp only [hf, hc, hb]
  simp only [List.length_cons, List.length_nil]
  generalize hL : List.filterMap _ _ = L
  have hL2 : L = [x, y, z] := hL.symm.trans hn
  subst hL2
  rw [if_neg (by decide)]
  rw [if_neg (fun h => by have := h.symm.trans hst; cases this)]
  rw [if_neg (by rw [hd]; simp)]
  rfl
end Mine
end
section
open PySem PySem.W PySem.Calls PyProof.Rows
set_option Elab.async false
set_option maxRecDepth 100000
set_option linter.unusedVariables false
namespace Mine
section
variable {w : World} {A : Around} {E : Value → Shared → Prop}
theorem add_lst {s : Shared} {a b : Addr} {vs ws : Array Value} {Q : Value → Shared → Prop} (hl : s.heap.IsList a vs) (hb : s.heap.IsList b ws)
    (h : Q (.ref s.heap.objs.size) { s with heap := s.heap.push { cls := .type "list", data := .seq (vs ++ ws) } }) (hz : vs.size + ws.size ≤ sizeLine) : wpAny (model P0 w) A (binaryOp .Add (.ref a) (.ref b)) Q E s := by
  rcases hl with ⟨⟨cls, dd, data, sl⟩, ho, hc, n, hd⟩
  rcases hb with ⟨⟨cls2, dd2, data2, sl2⟩, ho2, hc2, n2, hd2⟩
  simp only at hc hd hc2 hd2
  subst hc hd hc2 hd2
  exact concat_meets ⟨_, ho, rfl⟩ ⟨_, ho2, rfl⟩ noFill_list_add seq_list_add PySem.F.slot_list_add PySem.F.entry_list_add (PySem.F.args_list_add_2 _ _) (list_addW a b vs ws n n2 dd dd2 sl sl2 hz) ⟨ho, ho2, h⟩
theorem mul_lst {s : Shared} {a : Addr} {vs : Array Value} {x : Int} {u : Tok} {Q : Value → Shared → Prop} (hl : s.heap.IsList a vs) (hlo : -(2 ^ 63 : Int) ≤ x) (hhi : x < 2 ^ 63) (hz : vs.size * x.toNat ≤ 2 ^ 24)
    (h : Q (.ref s.heap.objs.size) { s with heap := s.heap.push { cls := .type "list", data := .seq (List.foldl (fun x1 x2 => x1 ++ x2) #[] (List.replicate (if vs.isEmpty = true then 0 else x.toNat) vs)) } }) : wpAny (model P0 w) A (binaryOp .Mult (.ref a) (.int x u)) Q E s := by
  rcases hl with ⟨⟨cls, dd, data, sl⟩, ho, hc, n, hd⟩
  simp only at hc hd
  subst hc hd
  exact wpAny_binaryOp_repeat_ref (T := "list") (U := "int") (by decide) ⟨_, ho, rfl⟩ (fun s' => typeIs_int s' x u) noFill_list_mul PySem.F.fills_int_mul PySem.F.slot_int_rmul repeat_list PySem.F.slot_int_index.lookup
    (call_meets PySem.F.slot_int_rmul (typeIs_int s x u) PySem.F.entry_int_rmul (PySem.F.args_int_rmul_2 _ _) (lm_int_rmul_list_any x u a vs n dd sl)
      ⟨ho, rfl, ⟨_, ho, rfl⟩, call_meets PySem.F.slot_list_mul ⟨_, ho, rfl⟩ PySem.F.entry_list_mul (PySem.F.args_list_mul_2 _ _)
        (lm_list_mul_any a vs n dd sl x u (by simp [Builtin.List.listFitsIndex]; (first | lia | omega)) (by (first | lia | omega)) (by simp [Builtin.List.listTooLong, sizeLine]; (first | lia | omega)))
        ⟨ho, h⟩⟩)
theorem bin_addL {a b : List D} (hz : a.length + b.length ≤ sizeLine) : BinOk w A .Add (.lst a) (.lst b) (.lst (a ++ b)) := by
  refine ⟨fun g s va vb Q E st ra rb hq => ?_⟩
  rcases Rd.lst_inv ra with ⟨_, _, _, _, hve0, ho, hc, hd, hr⟩
  first | subst hve0 | obtain ⟨⟩ := hve0
  case _ =>
    rcases Rd.lst_inv rb with ⟨_, _, _, _, hve0, ho2, hc2, hd2, hr2⟩
    first | subst hve0 | obtain ⟨⟩ := hve0
    case _ =>
      have e1 := hr.length
      have e2 := hr2.length
      rw [Array.length_toList] at e1 e2
      refine add_lst ⟨_, ho, hc, _, hd⟩ ⟨_, ho2, hc2, _, hd2⟩ (hq _ _ .push (.lst (Heap.get?_push_size _ rfl) rfl rfl ?_)) (by (first | lia | omega))
      rw [Array.toList_append]
      exact (hr.append hr2).keeps fun _ _ e => Heap.get?_push_of_some _ e
/-- n times the same -/
theorem bin_mulL1 {d : D} {n : Int} (hn : n ≤ 1000000) (hl : -1000000 ≤ n) : BinOk w A .Mult (.lst [d]) (.int n) (.lst (List.replicate n.toNat d)) := by
  refine ⟨fun g s va vb Q E st ra rb hq => ?_⟩
  rcases Rd.lst_inv ra with ⟨_, _, _, _, hve0, ho, hc, hd, hr⟩
  first | subst hve0 | obtain ⟨⟩ := hve0
  case _ =>
    rename_i a o vs k
    obtain ⟨u, rfl⟩ := Rd.int_inv rb
    case _ =>
      rcases hr.one with ⟨v, hv, rv⟩
      have hvs : vs = #[v] := by rw [← Array.toArray_toList (xs := vs), hv]
      subst hvs
      refine mul_lst ⟨_, ho, hc, _, hd⟩ (by (first | lia | omega)) (by (first | lia | omega)) (by show 1 * n.toNat ≤ _; (first | lia | omega)) (hq _ _ .push (.lst (Heap.get?_push_size _ rfl) rfl rfl ?_))
      have e : (List.foldl (fun x1 x2 => x1 ++ x2) #[] (List.replicate (if (#[v] : Array Value).isEmpty = true then 0 else n.toNat) #[v])).toList = List.replicate n.toNat v := by
        rw [if_neg (by simp)]
        have : ∀ (k : Nat) (a : Array Value), (List.foldl (fun x1 x2 => x1 ++ x2) a (List.replicate k #[v])).toList = a.toList ++ List.replicate k v := by
          intro k
          induction k with
          | zero => intro a; simp
          | succ k ih =>
            intro a
            rw [List.replicate_succ, List.foldl_cons, ih, List.replicate_succ]
            simp
        simpa using this n.toNat #[]
      rw [e]
      have r' : Rd g (s.heap.push { cls := .type "list", data := .seq (List.foldl (fun x1 x2 => x1 ++ x2) #[] (List.replicate (if (#[v] : Array Value).isEmpty = true then 0 else n.toNat) #[v])) }) v d := rv.keeps fun _ _ e => Heap.get?_push_of_some _ e
      have key : ∀ (H : Heap), Rd g H v d → ∀ k, RdAll g H (List.replicate k v) (List.replicate k d) := by
        intro H r k
        induction k with
        | zero => exact .nil
        | succ k ih => exact .cons r ih
      exact key _ r' _
end
section
variable {c : Cx} {ρ : List (Str × D)}
/-- the sum of two lists is a new one -/
theorem EvX.addL {l r : Expr} {pos : Pos} {a b : List D} (h1 : Ev c ρ l (some (.lst a))) (h2 : Ev c ρ r (some (.lst b))) (hz : a.length + b.length ≤ sizeLine) (hn : D.noLstAll (a ++ b) = true) : EvX c ρ (.BinOp l .Add r pos) (.lst (a ++ b)) := by
  refine ⟨fun O s Q E F hQ => ?_⟩
  refine wpAny_BinOp (h1.go1 O s _ _ F (fun v s₁ x rd => ?_))
  refine h2.go1 O s₁ _ _ (F.ext x.keep) (fun v₂ s₂ x₂ rd₂ => ?_)
  have rd' := rd.keeps x₂.keep
  rcases Rd.lst_inv rd' with ⟨_, _, _, _, hve0, ho, hc, hd, hr⟩
  first | subst hve0 | obtain ⟨⟩ := hve0
  case _ =>
    rcases Rd.lst_inv rd₂ with ⟨_, _, _, _, hve0, ho2, hc2, hd2, hr2⟩
    first | subst hve0 | obtain ⟨⟩ := hve0
    case _ =>
      have e1 := hr.length
      have e2 := hr2.length
      rw [Array.length_toList] at e1 e2
      rename_i va oa a1 na ab ob b1 nb
      have kp : Kp s₂.heap (s₂.heap.push { cls := .type "list", data := .seq (a1 ++ b1) }) := fun _ _ e => Heap.get?_push_of_some _ e
      refine add_lst ⟨_, ho, hc, _, hd⟩ ⟨_, ho2, hc2, _, hd2⟩ (hQ _ _ ((x.trans x₂).trans .push) fun l o hlo hlc => ?_) (by (first | lia | omega))
      have hls : s₂.heap.get? l = some o := x₂.keep _ _ (x.keep _ _ hlo)
      have hne : s₂.heap.objs.size ≠ l := Nat.ne_of_gt (Heap.lt_size hls)
      refine .lst (hid_get (Heap.get?_push_size _ rfl) hne) rfl rfl ?_
      rw [Array.toList_append]
      refine RdAll.hid (fun o' ho' hc' => ?_) hn ((hr.append hr2).keeps kp)
      rw [kp _ _ hls] at ho'
      cases ho'
      rw [hlc] at hc'
      exact absurd hc' (by decide)
/-- a sign of a text -/
theorem Ev.idxS {v i : Expr} {pos : Pos} {x : Str} {k : Nat} {cc : Nat} (h1 : Ev c ρ v (some (.str x))) (h2 : Ev c ρ i (some (.int k))) (hk : x.cps[k]? = some cc) (hsz : x.length < 2 ^ 62)
    (hs : autoParam (∀ x t u, subscripted i false (.str x t) (.int k u) = operate [.str x t, .int k u] (getItem (.str x t) (.int k u))) aiIwu) : Ev c ρ (.Subscript v i pos) (some (.str ⟨#[cc]⟩)) := by
  refine ⟨fun O s Q E F hQ _ => ?_⟩
  refine Subscript_ (h1.go1 O s _ _ F (fun v₁ s₁ x₁ rd₁ => ?_))
  refine h2.go1 O s₁ _ _ (F.ext x₁.keep) (fun v₂ s₂ x₂ rd₂ => ?_)
  cases rd₂
  cases rd₁
  have hk' : k < x.length := by
    have := (Array.getElem?_eq_some_iff.mp hk).1
    simpa [Str.length] using this
  have hit : Txt.item x (k : Int) = ⟨#[cc]⟩ := item_meets (by (first | lia | omega)) (by simpa using hk)
  refine tail_any (typeIs_str _ _ _) PySem.F.slot_str_getitem.lookup (SB.getItem ?_ ?_ ?_) (hs _ _ _)
  · unfold fitsSsize; simp; (first | lia | omega)
  · unfold Txt.charAt; rw [seqIndex_nat hk']; simp [hk]
  · rw [hit]; exact hQ _ _ _ rfl ((x₁.trans x₂).trans .tok) (.str _ _)
theorem strs_of {g h : Heap} {vs : List Value} {xs : List Str} : RdAll g h vs (xs.map D.str) → ∃ l : List (Str × Tok), vs = strValues l ∧ l.map (·.1) = xs := by
  induction xs generalizing vs with
  | nil => exact fun r => ⟨[], r.nil_inv, rfl⟩
  | cons x xs ih =>
    intro r
    obtain ⟨v, vs', rfl, a, b⟩ := r.cons_inv
    obtain ⟨l, rfl, rfl⟩ := ih b
    obtain ⟨t, rfl⟩ := a.str_inv
    exact ⟨(x, t) :: l, rfl, rfl⟩
/-- ''.join -/
theorem Ev.join {o e : Expr} {apos pos : Pos} {x : Str} {xs : List Str} (h1 : Ev c ρ o (some (.str x))) (h2 : Ev c ρ e (some (.lst (xs.map D.str)))) (hok : JoinOk x xs = true)
    (hbase : autoParam (∀ env, attributeBase o "join" env (eval o env) = eval o env) aiRfl) (hs : autoParam (∀ env, starEach [e] env = [(false, eval e env)]) aiRfl) (hline : autoParam ((apos.endLine == pos.line) = true) aiR) :
    Ev c ρ (.Call (.Attribute o "join" apos) [e] [] pos) (some (.str (Txt.join x xs))) := by
  refine ⟨fun O s Q E F hQ _ => ?_⟩
  refine Call_method1 (hbase _) (hs _) hline (h1.go1 O s _ _ F (fun v₁ s₁ x₁ r₁ => ?_))
  cases r₁
  refine SB.join (h2.go1 O s₁ _ _ (F.ext x₁.keep) (fun v₂ s₂ x₂ r₂ => ?_))
  rcases Rd.lst_inv r₂ with ⟨_, _, _, _, hve0, ho, hc, hd, hr⟩
  first | subst hve0 | obtain ⟨⟩ := hve0
  case _ =>
    rcases strs_of hr with ⟨l, hl, hx⟩
    rename_i al ol vl nl
    have e : vl = (strValues l).toArray := by rw [← hl, Array.toArray_toList]
    subst e
    exact ⟨_, l, rfl, ⟨_, ho, hc, _, hd⟩, xs, hx, hok, fun t' k => hQ _ _ _ rfl ((x₁.trans x₂).trans .tok) (.str _ _)⟩
end
end Mine
end
section
open PySem PySem.W PySem.Calls PyProof.Rows
set_option Elab.async false
set_option maxRecDepth 100000
set_option linter.unusedVariables false
namespace Mine
section
variable {c : Cx} {ρ : List (Str × D)}
theorem Tr.int {e : Expr} {i : Int} (h : Ev c ρ e (some (.int i))) (he : autoParam (∀ env whole, isTrue e env whole = (do let v ← whole; standAt e.pos; holding [v] (truthy v))) aiRfl) : Tr c ρ e (i != 0) := by
  refine ⟨fun O s Q E F hQ => ?_⟩
  refine isTrue_plain (h.go1 O s _ _ F (fun v s₁ x rd => ?_)) (he _ _)
  cases rd
  exact PyProof.Rows.truthy_int (hQ _ x)
theorem Ev.idxInts {v i : Expr} {pos : Pos} {is : List Int} {k : Int} (h1 : Ev c ρ v (some (.lst (is.map D.int)))) (h2 : Ev c ρ i (some (.int k))) (h0 : 0 ≤ k) (hk : k < is.length) (hz : is.length < 1000000)
    (hs : autoParam (∀ o u, subscripted i false (.ref o) (.int k u) = operate [.ref o, .int k u] (getItem (.ref o) (.int k u))) aiIwu) : Ev c ρ (.Subscript v i pos) (some (.int (is.getD k.toNat 0))) := by
  refine Ev.idxL h1 h2 h0 (by (first | lia | omega)) ?_ hs
  rw [List.getElem?_map, List.getD_eq_getElem?_getD, List.getElem?_eq_getElem (by (first | lia | omega))]
  rfl
end
theorem cellsFrom_acc : ∀ (names : List (Str × NameKind)) (k : Nat) (acc : List (Str × Addr)) (x : Str), (names.lookup x = some .cell ∨ (acc.lookup x).isSome = true) → ((cellsFrom k names acc).lookup x).isSome = true
  | [], _, _, _, h => by
    obtain h | h := h
    · simp at h
    · exact h
  | (n, kd) :: r, k, acc, x, h => by
    rw [cellsFrom]
    rw [List.lookup_cons] at h
    cases q : (x == n) with
    | true =>
      rw [q] at h
      split
      · exact cellsFrom_acc r _ _ x (.inr (by rw [List.lookup_cons, q]; rfl))
      · rename_i hk
        obtain h | h := h
        · cases h; exact absurd rfl hk
        · exact cellsFrom_acc r _ _ x (.inr h)
    | false =>
      rw [q] at h
      split
      · exact cellsFrom_acc r _ _ x (h.imp id fun h => by rw [List.lookup_cons, q]; exact h)
      · exact cellsFrom_acc r _ _ x h
theorem cells_some {names : List (Str × NameKind)} (k : Nat) (x : Str) (h : names.lookup x = some .cell) : ((cellsFrom k names []).lookup x).isSome = true := cellsFrom_acc names k [] x (.inl h)
theorem glued_signs (ks : List Nat) : Txt.join (Str.ofString "") (ks.map fun k => (⟨#[k]⟩ : Str)) = ⟨ks.toArray⟩ := by
  unfold Txt.join
  rw [StrLaws.glued_eq_join]
  induction ks with
  | nil => rfl
  | cons k ks ih =>
    cases ks with
    | nil => rfl
    | cons k' ks =>
      show (⟨#[k]⟩ : Str) ++ Str.ofString "" ++ Str.join (Str.ofString "") ((k' :: ks).map fun k => (⟨#[k]⟩ : Str)) = _
      rw [ih]
      show (⟨(#[k] ++ (Str.ofString "").cps) ++ (k' :: ks).toArray⟩ : Str) = _
      congr 1
      have : (Str.ofString "").cps = #[] := rfl
      rw [this, Array.append_empty]
      simp
theorem joinOk_signs (ks : List Nat) (h : ks.length ≤ 1000) : JoinOk (Str.ofString "") (ks.map fun k => (⟨#[k]⟩ : Str)) = true := by
  unfold JoinOk
  have := StrLaws.joinFits (sep := Str.ofString "") (texts := ks.map fun k => (⟨#[k]⟩ : Str)) (B := 1) (fun y hy => by
    obtain ⟨k, _, rfl⟩ := List.mem_map.mp hy
    exact Nat.le_refl _) (by rw [List.length_map]; have : (Str.ofString "").length = 0 := rfl; rw [this]; (first | lia | omega))
  simpa using this
end Mine
end
section
open PySem PySem.W PySem.Calls PyProof.Rows
open PySem.AutoSeq1 (wpAny_loadPart')
open PySem.MeetsSeq3 (plain_eq_loop entry_eq_loop)
set_option Elab.async false
set_option maxRecDepth 100000
set_option linter.unusedVariables false
namespace Mine
theorem ints_get {vs : List Value} {ns : List Int} {i : Nat} (r : IntsAre vs ns) (h : i < ns.length) : ∃ t, vs[i]? = some (.int ns[i] t) := by
  induction r generalizing i with
  | nil => exact absurd h (Nat.not_lt_zero _)
  | cons n t _ ih =>
    cases i with
    | zero => exact ⟨t, rfl⟩
    | succ i => exact ih (Nat.lt_of_succ_lt_succ h)
theorem lt_cons (a b : Int) (r t : List Int) : decide (a :: r < b :: t) = (decide (a < b) || (a == b && decide (r < t))) := by
  rw [Bool.eq_iff_iff]
  simp [List.cons_lt_cons_iff]
theorem lt_loop (l b : Addr) (items items2 : Array Value) (n n2 : Nat) (dd dd2 : Option Addr) (sl sl2 : Array (Option Value)) (as bs : List Int) (ha : IntsAre items.toList as) (hb' : IntsAre items2.toList bs) (hsz : as.length = bs.length) (k : Nat) :
    ∀ i : Nat, as.length - i = k → Meets (Builtin.«list.__eq__.loop» ⟨[.ref l, .ref b, rawInt i, rawInt 0], []⟩)
      (fun A R s => s.heap.get? l = some { cls := .type "list", dict := dd, data := .seq items n, slots := sl } ∧ s.heap.get? b = some { cls := .type "list", dict := dd2, data := .seq items2 n2, slots := sl2 } ∧
        R (.ok (.ret (.bool (decide (as.drop i < bs.drop i))))) s) := by
  have hl1 : items.size = as.length := by have := ha.length; simpa using this
  have hl2 : items2.size = bs.length := by have := hb'.length; simpa using this
  induction k with
  | zero =>
    intro i hk prog w A R s h
    rcases s with ⟨hp, g, d, tk, os⟩; obtain ⟨hl, hb, h⟩ := h
    wp_walk using wpAny_loadPart' hl, wpAny_loadPart' hb
    have hi1 : items[((i : Nat) : Int).toNat]? = none := by simp; (first | lia | omega)
    have hi2 : items2[((i : Nat) : Int).toNat]? = none := by simp; (first | lia | omega)
    have hd : as.drop i = [] := by simp; (first | lia | omega)
    have hd2 : bs.drop i = [] := by simp; (first | lia | omega)
    rw [hd, hd2] at h
    rw [hi1, hi2]
    wp_walk using wpAny_loadPart' hl, wpAny_loadPart' hb
    show R (.ok (.ret (.bool (decide (items.size < items2.size))))) _
    rw [show decide (items.size < items2.size) = false by simp; (first | lia | omega)]
    simpa using h
  | succ k ih =>
    intro i hk prog w A R s h
    rcases s with ⟨hp, g, d, tk, os⟩; obtain ⟨hl, hb, h⟩ := h
    wp_walk using wpAny_loadPart' hl, wpAny_loadPart' hb
    have hlt : i < as.length := by (first | lia | omega)
    have hlt2 : i < bs.length := by (first | lia | omega)
    obtain ⟨t1, e1⟩ := ints_get ha hlt
    obtain ⟨t2, e2⟩ := ints_get hb' hlt2
    rw [Array.getElem?_toList] at e1 e2
    have hi1 : items[((i : Nat) : Int).toNat]? = some (.int as[i] t1) := by simpa using e1
    have hi2 : items2[((i : Nat) : Int).toNat]? = some (.int bs[i] t2) := by simpa using e2
    have hd : as.drop i = as[i] :: as.drop (i + 1) := List.drop_eq_getElem_cons hlt
    have hd2 : bs.drop i = bs[i] :: bs.drop (i + 1) := List.drop_eq_getElem_cons hlt2
    have hc : ((i : Int) + 1) = ((i + 1 : Nat) : Int) := by push_cast; rfl
    rw [hd, hd2] at h
    rw [hi1, hi2]
    refine wpAny_bind (SeqAt.EqAt.int_int _ _ _ _ prog w _ _ ?_)
    cases hq : (as[i] == bs[i]) with
    | true =>
      have hq' : as[i] = bs[i] := by simpa using hq
      rw [lt_cons, hq, hq', decide_eq_false (Int.lt_irrefl _), Bool.false_or, Bool.true_and] at h
      wp_walk
      rw [hc]
      exact ⟨plainId_quiet plain_eq_loop _, codeAny_builtin entry_eq_loop (by
        rw [Around.under_plainId plain_eq_loop _]
        exact ih (i + 1) (by (first | lia | omega)) prog w A R _ ⟨hl, hb, by simpa using h⟩)⟩
    | false =>
      have hq' : as[i] ≠ bs[i] := by simpa using hq
      rw [lt_cons, hq, Bool.false_and, Bool.or_false] at h
      wp_walk using wpAny_loadPart' hl, wpAny_loadPart' hb
      rw [hi1, hi2]
      dsimp only
      refine wpAny_bind ?_
      show wpAny _ _ (compareOp .Lt (.int as[i] t1) (.int bs[i] t2)) _ _ _
      exact PyProof.Rows.lt_int (wpAny_pure h)
theorem list_lt (l b : Addr) (items items2 : Array Value) (n n2 : Nat) (dd dd2 : Option Addr) (sl sl2 : Array (Option Value)) (as bs : List Int) (ha : IntsAre items.toList as) (hb' : IntsAre items2.toList bs) (hsz : as.length = bs.length) :
    Meets (Builtin.«list.__lt__» ⟨[.ref l, .ref b], []⟩)
      (fun A R s => s.heap.get? l = some { cls := .type "list", dict := dd, data := .seq items n, slots := sl } ∧ s.heap.get? b = some { cls := .type "list", dict := dd2, data := .seq items2 n2, slots := sl2 } ∧
        R (.ok (.ret (.bool (decide (as < bs))))) s) := by
  intro prog w A R s h
  rcases s with ⟨hp, g, d, tk, os⟩; obtain ⟨hl, hb, h⟩ := h
  have f3 := AutoSeq1.sub_list_list
  wp_walk using wpAny_loadPart' hl, wpAny_loadPart' hb
  exact ⟨plainId_quiet plain_eq_loop _, codeAny_builtin entry_eq_loop (by
    rw [Around.under_plainId plain_eq_loop _]
    exact lt_loop l b items items2 n n2 dd dd2 sl sl2 as bs ha hb' hsz _ 0 rfl prog w A R _ ⟨hl, hb, by simpa using h⟩)⟩
theorem ints_nats {g h : Heap} {vs : List Value} {ns : List Nat} : RdAll g h vs (ns.map fun (k : Nat) => D.int (k : Int)) → IntsAre vs (ns.map fun (k : Nat) => (k : Int)) := by
  induction ns generalizing vs with
  | nil => exact fun r => r.nil_inv ▸ .nil
  | cons x xs ih =>
    intro r
    obtain ⟨v, vs', rfl, a, b⟩ := r.cons_inv
    obtain ⟨t, rfl⟩ := a.int_inv
    exact .cons _ t (ih b)
theorem cast_lt : ∀ (a b : List Nat), (a.map fun (k : Nat) => (k : Int)) < (b.map fun (k : Nat) => (k : Int)) ↔ a < b
  | [], [] => by simp
  | [], b :: t => by simp
  | a :: r, [] => by simp
  | a :: r, b :: t => by
    rw [List.map_cons, List.map_cons, List.cons_lt_cons_iff, List.cons_lt_cons_iff, cast_lt r t]
    exact or_congr (by (first | lia | omega)) (and_congr (by (first | lia | omega)) Iff.rfl)
theorem cmp_ltL {w : World} {A : Around} {a b : List Nat} (hsz : a.length = b.length) (hu : A.units < cLine) : CmpOk w A .Lt (.lst (a.map fun (k : Nat) => .int (k : Int))) (.lst (b.map fun (k : Nat) => .int (k : Int))) (decide (a < b)) := by
  refine ⟨fun g s va vb Q E st ra rb h => ?_⟩
  rcases Rd.lst_inv ra with ⟨_, _, _, _, hve0, ho, hc, hd, hr⟩
  first | subst hve0 | obtain ⟨⟩ := hve0
  case _ =>
    rcases Rd.lst_inv rb with ⟨_, _, _, _, hve0, ho2, hc2, hd2, hr2⟩
    first | subst hve0 | obtain ⟨⟩ := hve0
    case _ =>
      rename_i la oa va na lb ob vb nb
      rcases oa with ⟨cls, dd, data, sl⟩
      rcases ob with ⟨cls2, dd2, data2, sl2⟩
      simp only at hc hd hc2 hd2
      subst hc hd hc2 hd2
      have e : decide ((a.map fun (k : Nat) => (k : Int)) < (b.map fun (k : Nat) => (k : Int))) = decide (a < b) := by
        rw [Bool.eq_iff_iff, decide_eq_true_eq, decide_eq_true_eq]; exact cast_lt a b
      exact richCompare_meets_room (op := .Lt) ⟨_, ho, rfl⟩ ⟨_, ho2, rfl⟩ PySem.F.slot_list_lt PySem.F.entry_list_lt (PySem.F.args_list_lt_2 _ _) (list_lt la lb va vb na nb dd dd2 sl sl2 _ _ (ints_nats hr) (ints_nats hr2) (by simpa using hsz))
        ⟨ho, ho2, show Value.bool _ ≠ Value.notImplemented ∧ Q (.bool _) s from ⟨(fun x => nomatch x), by rw [e]; exact h s (.refl _)⟩⟩ hu
end Mine
end
section
open PySem PySem.W PySem.Calls PyProof.Rows
set_option Elab.async false
set_option maxRecDepth 100000
set_option linter.unusedVariables false
namespace Mine
/-- the pairs of a dict display, with text keys -/
structure Dp (c : Cx) (ρ : List (Str × D)) (pairs : List (Expr × Expr)) (kds : List (Str × D)) : Prop where
  go : c.Ok → ∀ (s : Shared) (pos : Pos) (Q : List (Value × Value) → Shared → Prop) (E : Value → Shared → Prop), Fm c ρ s.heap →
    (∀ vs s' (kvs : List (Str × Value)), Ext s s' → Carries (strKind P0 c.w) vs kvs → kvs.map (·.1) = kds.map (·.1) → RdAll c.g s'.heap (kvs.map (·.2)) (kds.map (·.2)) → Q vs s') →
    wpAny c.M c.A (evalPairs (pairs.map fun p => (eval p.1 c.env, do let x ← eval p.2 c.env; standAt pos; pure x))) Q E s
section
variable {c : Cx} {ρ : List (Str × D)}
theorem Dp.nil : Dp c ρ [] [] := ⟨fun O s pos Q E F hQ => evalPairs_nil (hQ [] s [] (.refl _) trivial rfl .nil)⟩
theorem Dp.cons {ke ve : Expr} {k : Str} {d : D} {pairs : List (Expr × Expr)} {kds : List (Str × D)} (h1 : Ev c ρ ke (some (.str k))) (h2 : Ev c ρ ve (some d)) (h3 : Dp c ρ pairs kds) : Dp c ρ ((ke, ve) :: pairs) ((k, d) :: kds) := by
  refine ⟨fun O s pos Q E F hQ => ?_⟩
  refine evalPairs_cons (h1.go1 O s _ _ F (fun v s₁ x₁ rd₁ => ?_))
  obtain ⟨t, rfl⟩ := Rd.str_inv rd₁
  case _ =>
    refine wpAny_bind (h2.go1 O s₁ _ _ (F.ext x₁.keep) (fun v₂ s₂ x₂ rd₂ => ?_))
    refine wpAny_bind (wpAny_standAt (wpAny_pure ?_))
    refine h3.go O s₂ pos _ E ((F.ext x₁.keep).ext x₂.keep) fun vs s₃ kvs x₃ hc hk hr => ?_
    exact hQ _ s₃ ((k, v₂) :: kvs) ((x₁.trans x₂).trans x₃) ⟨strKind_is _ _ _ _, rfl, hc⟩ (by simp [hk]) (.cons (rd₂.keeps x₃.keep) hr)
/-- a dict display: the dict is fresh -/
theorem Dp.made {keys : List (Option Expr)} {values : List Expr} {pos : Pos} {pairs : List (Expr × Expr)} {kds : List (Str × D)} (h : Dp c ρ pairs kds) (h0 : pairs ≠ []) (hlen : pairs.length ≤ 15) (hn : (kds.map (·.1)).Nodup)
    (hshape : ∀ env, (evalEachOpt keys env).zip ((evalEach values env).map fun v => do let x ← v; standAt pos; pure x) = (pairs.map fun p => (eval p.1 env, (do let x ← eval p.2 env; standAt pos; pure x : Sem Value))).map fun p => (some p.1, p.2))
    (O : c.Ok) {s : Shared} {Q E : Value → Shared → Prop} (F : Fm c ρ s.heap)
    (hQ : ∀ s' (kvs : List (Str × Value)), Ext s s' → s'.heap.DictOf (strKind P0 c.w) s.heap.objs.size kvs → kvs.map (·.1) = kds.map (·.1) → RdAll c.g s'.heap (kvs.map (·.2)) (kds.map (·.2)) → Q (.ref s.heap.objs.size) s') :
    wpAny c.M c.A (eval (.Dict keys values pos) c.env) Q E s := by
  refine wpAny_Dict_pairs (knd := strKind P0 c.w) (hshape _) (by simpa using h0) (by simpa using hlen) ?_
  have kp : Kp s.heap (s.heap.push { cls := .type "dict", data := .dict #[] }) := fun b o e => Heap.get?_push_of_some _ e
  refine h.go O _ pos _ E (F.ext kp) fun vs s₁ kvs x₁ hc hk hr => ?_
  have hnew : (s.heap.push { cls := .type "dict", data := .dict #[] }).get? s.heap.objs.size = some { cls := .type "dict", data := .dict #[] } := Heap.get?_push_size _ rfl
  have ho := x₁.keep _ _ hnew
  refine ⟨kvs, hc, ⟨_, #[], 0, ho, ⟨rfl, rfl, rfl⟩, rfl, fun _ he => by simp at he, Pairs.nil, List.nodup_nil⟩, fun h' hd hs => ?_⟩
  have hm : merged [] kvs = kvs := merged_nil_of_nodup _ (by rw [hk]; exact hn)
  rw [hm] at hd
  refine hQ _ kvs ⟨fun b o e => ?_, (Same.trans ⟨_, _, rfl⟩ x₁.same).trans ⟨_, _, rfl⟩⟩ hd hk ?_
  · exact (hs.2 b (Nat.ne_of_lt (Heap.lt_size e))).trans (x₁.keep _ _ (kp _ _ e))
  · refine hr.mono (.refl _) fun b o e ⟨ws, n, hq⟩ => ?_
    by_cases hb : b = s.heap.objs.size
    · subst hb; rw [ho] at e; cases e; cases hq
    · exact (hs.2 b hb).trans e
theorem valueAt_rd {g h : Heap} {k : Str} {d : D} : ∀ {kvs : List (Str × Value)} {kds : List (Str × D)}, kvs.map (·.1) = kds.map (·.1) → RdAll g h (kvs.map (·.2)) (kds.map (·.2)) → kds.lookup k = some d → ∃ v, valueAt kvs k = some v ∧ Rd g h v d
  | [], [], _, _, e => by simp at e
  | [], _ :: _, hk, _, _ => by simp at hk
  | _ :: _, [], hk, _, _ => by simp at hk
  | (k₁, v) :: kvs, (k₂, d₂) :: kds, hk, hr, e => by
    simp only [List.map_cons, List.cons.injEq] at hk hr
    obtain ⟨rfl, hk⟩ := hk
    cases hr with
    | cons a b =>
      rw [List.lookup_cons] at e
      by_cases q : k = k₁
      · subst q
        simp at e
        subst e
        exact ⟨v, by simp [valueAt], a⟩
      · have q' : (k == k₁) = false := by simpa using q
        rw [q'] at e
        rcases valueAt_rd hk b e with ⟨v', h1, h2⟩
        exact ⟨v', by simpa [valueAt, List.find?_cons, Ne.symm q] using h1, h2⟩
/-- {k: e, ..}[name] -/
theorem Ev.dictAt {keys : List (Option Expr)} {values : List Expr} {pos pos' : Pos} {i : Expr} {k : Str} {d : D} {kds : List (Str × D)} (h : Dp c ρ ((keys.filterMap id).zip values) kds) (hi : Ev c ρ i (some (.str k))) (hd : kds.lookup k = some d) (h0 : (keys.filterMap id).zip values ≠ []) (hlen : ((keys.filterMap id).zip values).length ≤ 15) (hn : (kds.map (·.1)).Nodup)
    (hshape : ∀ env, (evalEachOpt keys env).zip ((evalEach values env).map fun v => do let x ← v; standAt pos; pure x) = (((keys.filterMap id).zip values).map fun p => (eval p.1 env, (do let x ← eval p.2 env; standAt pos; pure x : Sem Value))).map fun p => (some p.1, p.2))
    (hs : autoParam (∀ o x u, subscripted i false (.ref o) (.str x u) = operate [.ref o, .str x u] (getItem (.ref o) (.str x u))) aiIwu) : Ev c ρ (.Subscript (.Dict keys values pos) i pos') (some d) := by
  refine ⟨fun O s Q E F hQ _ => ?_⟩
  refine Subscript_ (h.made h0 hlen hn hshape O F fun s₁ kvs x₁ hD hk hr => ?_)
  refine hi.go1 O s₁ _ _ (F.ext x₁.keep) (fun v₂ s₂ x₂ rd₂ => ?_)
  obtain ⟨t, rfl⟩ := Rd.str_inv rd₂
  case _ =>
    rcases valueAt_rd hk hr hd with ⟨v, hv, rv⟩
    have hD₂ : s₂.heap.DictOf (strKind P0 c.w) s.heap.objs.size kvs := by
      rcases hD with ⟨o, es, ep, ho, r⟩
      exact ⟨o, es, ep, x₂.keep _ _ ho, r⟩
    refine tail_any hD₂.mapOf.typeIs slot_dict_getitem.lookup (wpAny_getItem_of (strKind_is _ _ _ _) hD₂.mapOf hv (hQ _ _ _ rfl ((x₁.trans x₂).trans .tok) (rv.keeps x₂.keep))) (hs _ _ _)
end
end Mine
end
section
open PySem PySem.W PySem.Calls PyProof.Rows
set_option Elab.async false
set_option maxRecDepth 100000
set_option linter.unusedVariables false
namespace Mine
theorem letGo_str (e : Expr) (x : Str) (t : Tok) (r : Value) : letTemporaryGo e (.str x t) r = pure () := by cases e <;> rfl
/-- a slice of a text that has no name -/
theorem sub_slice {M : Model} {A : Around} {E : Value → Shared → Prop} {s : Shared} {env : Env} {pos p : Pos} {v : Expr} {lo hi : Option Expr} {Q : Value → Shared → Prop}
    (h : wpAny M A (eval v env) (fun o s₁ => (∀ r, letTemporaryGo v o r = pure ()) ∧ wpAny M A (eval (.Slice lo hi Option.none p) env) (fun i s₂ => ItemOn M A E o i Q s₂) E s₁) E s) :
    wpAny M A (eval (.Subscript v (.Slice lo hi Option.none p) pos) env) Q E s := by
  rw [eval_Subscript]
  refine wpAny_bind (wpAny_mono h (fun o s₁ h₁ => ?_) fun _ _ x => x)
  obtain ⟨ht, h₁⟩ := h₁
  refine wpAny_bind (wpAny_holding (wpAny_mono h₁ (fun i s₂ h₂ => wpAny_bind (wpAny_standAt ?_)) fun _ _ x => x))
  rcases h₂ with ⟨T, id, hl, hT, hg⟩
  have fin : wpAny M A (operate [i, o] (getItem o i)) (fun r s₃ => wpAny M A (letTemporaryGo v o r >>= fun _ => pure r) Q E s₃) E s₂ :=
    wpAny_operating (wpAny_mono hg (fun r s₃ h₃ => wpAny_bind (wpAny_of_eq (ht r) (wpAny_pure h₃))) fun _ _ x => x)
  first
    | (refine wpAny_bind ?_; rw [getitemInPython_of_ne hT.not_modules]; refine wpAny_bind (wpAny_specialOf hT hl ?_))
    | refine wpAny_bind (wpAny_specialOf hT hl ?_)
  first
    | exact wpAny_pure (wpAny_bind fin)
    | exact wpAny_bind fin
    | exact fin
section
variable {c : Cx} {ρ : List (Str × D)}
theorem Ev.withOk {e : Expr} {r : Option D} (h : c.Ok → Ev c ρ e r) : Ev c ρ e r := ⟨fun O => (h O).go O⟩
theorem Ev.slOfT {v e f : Expr} {p pos : Pos} {x : Str} {i j : Int} (h1 : Ev c ρ v (some (.str x))) (h2 : Ev c ρ e (some (.int i))) (h3 : Ev c ρ f (some (.int j))) (hz : x.length ≤ sizeLine) :
    Ev c ρ (.Subscript v (.Slice (some e) (some f) Option.none p) pos) (some (.str (Txt.slice x (some i) (some j)))) := by
  refine ⟨?_⟩
  intro O s Q E F hQ _
  refine sub_slice (h1.go1 O s _ _ F (fun v₁ s₁ x₁ r₁ => ?_))
  cases r₁
  have F₁ := F.ext x₁.keep
  refine ⟨letGo_str _ _ _, ?_⟩
  refine wpAny_Slice (h2.go1 O s₁ _ _ F₁ (fun v₂ s₂ x₂ r₂ => ?_))
  cases r₂
  refine h3.go1 O s₂ _ _ (F₁.ext x₂.keep) (fun v₃ s₃ x₃ r₃ => ?_)
  cases r₃
  exact wpAny_pure (SBH.sliceItem_ss (kept_kp s₃.heap) (.refl _) (fun h' t' k hp => hQ _ _ _ rfl (((x₁.trans x₂).trans x₃).trans ⟨hp, _, _, rfl⟩) (.str _ _)) hz)
end
end Mine
end
section
open PySem PySem.W PySem.Calls PyProof.Rows
set_option Elab.async false
set_option maxRecDepth 100000
set_option linter.unusedVariables false
namespace Mine
section
variable {K : Type} [DecidableEq K] {prog : Program} {w : World} {knd : PySem.KeyKind prog w K} {A : Around} {E : Value → Shared → Prop} {s : Shared}
theorem gatherG (m : Option Addr) (f : (Option (Sem Value) × Sem Value) → (Option Addr × List (Sem Value × Sem Value)) → Sem (ForInStep (Option Addr × List (Sem Value × Sem Value))))
    (hf : ∀ (p : Sem Value × Sem Value) (run : List (Sem Value × Sem Value)), run.length + 1 < 17 → f (some p.1, p.2) (m, run) = pure (.yield (m, run ++ [p]))) :
    ∀ (items run : List (Sem Value × Sem Value)) (rest : List (Option (Sem Value) × Sem Value)), run.length + items.length < 17 → forIn ((items.map fun p => (some p.1, p.2)) ++ rest) (m, run) f = forIn rest (m, run ++ items) f
  | [], run, rest, _ => by simp
  | p :: items, run, rest, h => by
    rw [List.map_cons, List.cons_append, List.forIn_cons, hf p run (by simp at h; (first | lia | omega)), pure_bind]
    have := gatherG m f hf items (run ++ [p]) rest (by simp at h ⊢; (first | lia | omega))
    simpa using this
/-- the display of 17 pairs and some more -/
theorem display_long (as bs : List (Sem Value × Sem Value)) (a : Sem Value × Sem Value) (ha : as.length = 16) (hb : bs.length < 17) (hb0 : bs ≠ []) {Q : Value → Shared → Prop}
    (h : wpAny (model prog w) A (subDict (as ++ [a])) (fun d s₁ => wpAny (model prog w) A (subDict bs) (fun sub s₂ =>
      wpAny (model prog w) A (mergeMapping d (.ref sub) false) (fun _ s₃ => Q (.ref d) s₃) (fun e s₃ => False) s₂) E s₁) E s) :
    wpAny (model prog w) A (dictDisplay ((as.map fun p => (some p.1, p.2)) ++ ((some a.1, a.2) :: (bs.map fun p => (some p.1, p.2)) ++ []))) Q E s := by
  unfold dictDisplay
  dsimp only
  rw [gatherG none _ (fun p run h => by
    have hne : ((run ++ [(p.1, p.2)]).length == 17) = false := by simp; (first | lia | omega)
    simp only [hne, Bool.false_eq_true, if_false]) as [] _ (by simp [ha])]
  rw [List.cons_append, List.forIn_cons]
  have hl : ((([] : List (Sem Value × Sem Value)) ++ as ++ [(a.1, a.2)]).length == 17) = true := by simp [ha]
  simp only [hl, if_true]
  have he : (([] : List (Sem Value × Sem Value)) ++ as ++ [(a.1, a.2)]).isEmpty = false := by simp
  simp only [he, Bool.false_eq_true, if_false]
  refine wpAny_bind (wpAny_bind (wpAny_bind (wpAny_bind (wpAny_mono h (fun d s₁ h₁ => ?_) fun _ _ e => e))))
  refine wpAny_pure (wpAny_pure ?_)
  dsimp only
  have hg : ∀ (f : (Option (Sem Value) × Sem Value) → (Option Addr × List (Sem Value × Sem Value)) → Sem (ForInStep (Option Addr × List (Sem Value × Sem Value)))), (∀ (p : Sem Value × Sem Value) (run : List (Sem Value × Sem Value)), run.length + 1 < 17 → f (some p.1, p.2) (some d, run) = pure (.yield (some d, run ++ [p]))) →
      forIn ((bs.map fun p => (some p.1, p.2)) ++ []) (some d, []) f = pure (some d, bs) := fun f hf => by
    rw [gatherG (some d) f hf bs [] [] (by simpa using hb)]
    simp
  rw [hg _ (fun p run h => by
    have hne : ((run ++ [(p.1, p.2)]).length == 17) = false := by simp; (first | lia | omega)
    simp only [hne, Bool.false_eq_true, if_false])]
  refine wpAny_pure ?_
  dsimp only
  have he : bs.isEmpty = false := by cases bs with | nil => exact absurd rfl hb0 | cons _ _ => rfl
  simp only [he, Bool.false_eq_true, if_false]
  refine wpAny_bind (wpAny_bind (wpAny_holding (wpAny_mono h₁ (fun sub s₂ h₂ => ?_) fun _ _ e => e)))
  refine wpAny_bind (wpAny_onRaise (wpAny_holding (wpAny_mono h₂ (fun _ s₃ h₃ => ?_) fun _ _ e => e.elim)))
  exact wpAny_pure (wpAny_pure h₃)
theorem dictPut_new {d : Addr} {kvs : List (K × Value)} {k : K} {key v : Value} {Q : Unit → Shared → Prop} (hkey : knd.is k key = true) (hm : s.heap.DictOf knd d kvs) (hnew : k ∉ kvs.map (·.1))
    (hQ : ∀ h', h'.DictOf knd d (kvs ++ [(k, v)]) → Heap.SameBut d s.heap h' → Q () { s with heap := h' })
    (hsz : kvs.length ≤ sizeLine) : wpAny (model prog w) A (dictPut d (knd.hash k) key v) Q E s := by
  rcases hm with ⟨o, es, ep, ho, hc, hd, hk, hp, hn⟩
  have hes : es.size ≤ sizeLine := by have e1 := hp.length; have e2 : es.toList.length = es.size := by simp
                                      (first | lia | omega)
  have hidx : (es.findIdx? fun e => knd.is k e.key) = kvs.findIdx? fun kv => decide (kv.1 = k) := by
    rw [← hp.findIdx k]; obtain ⟨l⟩ := es; simp
  have hnone : (es.findIdx? fun e => knd.is k e.key) = none := by
    rw [hidx, List.findIdx?_eq_none_iff]
    intro kv hkv
    exact decide_eq_false fun e => hnew (List.mem_map.mpr ⟨kv, hkv, e⟩)
  unfold dictPut
  refine wpAny_bind (wpAny_dictFind_of hkey ho hd hk ?_)
  rw [hnone]
  refine wpAny_updateDictKeys (hz := hes) ho hd (hQ _ ⟨_, _, ep + 1, Heap.get?_update_self _ ho (Obj.isFreed_of_dict (Obj.data_mapDictKeys hd _)),
      hc.mapDictKeys _, Obj.data_mapDictKeys hd _, hk.push hkey _, ?_, ?_⟩ (Heap.SameBut.update ..))
  · have := hp.append hkey (knd.hash k) v
    obtain ⟨l⟩ := es
    simpa using this
  · rw [List.map_append, List.nodup_append]
    refine ⟨hn, by simp, ?_⟩
    intro a ha b hb
    simp only [List.map_cons, List.map_nil, List.mem_singleton] at hb
    subst hb
    exact fun e => hnew (e ▸ ha)
theorem take_new {α : Type} {acc more : List (α × Value)} {i : Nat} {k : α} {v : Value} (hnd : ((acc ++ more).map (·.1)).Nodup) (hv : more[i]? = some (k, v)) :
    acc ++ more.take (i + 1) = (acc ++ more.take i) ++ [(k, v)] ∧ k ∉ (acc ++ more.take i).map (·.1) := by
  have htk : more.take (i + 1) = more.take i ++ [(k, v)] := by rw [List.take_add_one, hv]; rfl
  have e : acc ++ more.take (i + 1) = (acc ++ more.take i) ++ [(k, v)] := by rw [htk, List.append_assoc]
  refine ⟨e, fun hm => ?_⟩
  have h1 : ((acc ++ more.take (i + 1)).map (·.1)).Nodup := hnd.sublist (List.Sublist.map _ (List.Sublist.append_left (List.take_sublist _ _) _))
  rw [e, List.map_append, List.nodup_append] at h1
  exact h1.2.2 _ hm _ (.head _) rfl
theorem stored_new {l : List (Str × Value)} {k : Str} {v : Value} (h : k ∉ l.map (·.1)) : stored l k v = l ++ [(k, v)] := by
  rw [stored, if_neg]
  rw [List.any_eq_true]
  rintro ⟨kv, hkv, he⟩
  exact h (List.mem_map.mpr ⟨kv, hkv, of_decide_eq_true he⟩)
inductive MergeInv (knd : PySem.KeyKind prog w K) (s : Shared) (d o : Addr) (n : Nat) (kvs more : List (K × Value)) (oo : Obj) (rest : List Nat) (s' : Shared) : Prop
  | mk (h' : Heap) (i : Nat) (e : s' = { s with heap := h' }) (r : rest = List.range' i (n - i)) (hi : i ≤ n) (hd : h'.DictOf knd d (kvs ++ more.take i)) (ho : h'.get? o = some oo) (hs : Heap.SameBut d s.heap h')
theorem merge_fresh {d o : Addr} {kvs more : List (K × Value)} {Q : Unit → Shared → Prop} (hdo : d ≠ o) (hoS : (o == sysModules) = false) (hk0 : kvs ≠ [])
    (hd : s.heap.DictOf knd d kvs) (ho : s.heap.DictOf knd o more) (hnd : ((kvs ++ more).map (·.1)).Nodup)
    (hQ : ∀ h', h'.DictOf knd d (kvs ++ more) → Heap.SameBut d s.heap h' → Q () { s with heap := h' })
    (hsz : kvs.length + more.length ≤ sizeLine) :
    wpAny (model prog w) A (mergeMapping d (.ref o) false) Q E s := by
  rcases id hd with ⟨od, esd, epd, hod, hcd, hdd, hkd, hpd, hndd⟩
  rcases id ho with ⟨oo, eso, epo, hoo, hco, hdo', hko, hpo, hno⟩
  have hlen : more.length = eso.size := by rw [← hpo.length]; simp
  have hlend : kvs.length = esd.size := by rw [← hpd.length]; simp
  unfold mergeMapping
  refine wpAny_bind (wpAny_isInstance ho.typeIs isSubtype_dict_dict ?_)
  rw [if_pos rfl]
  refine wpAny_bind (wpAny_specialOf ho.typeIs F.slot_dict_iter.lookup (wpAny_bind (wpAny_pure ?_)))
  have hit : ((some (Value.builtin "dict.__iter__")) == some (Value.builtin "dict.__iter__")) = true := by decide +kernel
  rw [hit]
  dsimp only
  rw [if_neg (by rw [hoS]; exact Bool.false_ne_true)]
  refine wpAny_bind (wpAny_dictEntries hod hdd ?_)
  have hemp : esd.isEmpty = false := by
    cases h : esd.isEmpty with
    | false => rfl
    | true => exact absurd (List.length_eq_zero_iff.mp (by rw [hlend, Array.isEmpty_iff.mp h]; rfl)) hk0
  rw [hemp, if_neg (by decide)]
  refine wpAny_bind (wpAny_dictEntries hoo hdo' ?_)
  refine wpAny_bind (wpAny_dictEpoch hoo hdo' ?_)
  refine wpAny_bind ?_
  refine wpAny_forIn_list _
    (fun rest _ s' => MergeInv knd s d o eso.size kvs more oo rest s')
    _ ?_ ?_ _ _ ⟨s.heap, 0, rfl, by rw [List.range_eq_range', Nat.sub_zero], Nat.zero_le _, by simpa using hd, hoo, Heap.SameBut.refl _ _⟩
  · rintro x rest b s' ⟨h', i, rfl, hr, hi, hd', hoo', hs'⟩
    have hlt : i < eso.size := by
      obtain h | h := Nat.lt_or_ge i eso.size
      · exact h
      · rw [Nat.sub_eq_zero_of_le h] at hr; simp at hr
    obtain ⟨rfl, hrest⟩ : x = i ∧ rest = List.range' (i + 1) (eso.size - (i + 1)) := by
      have e : eso.size - i = (eso.size - (i + 1)) + 1 := by (first | lia | omega)
      rw [e, List.range'_succ] at hr
      injection hr with h1 h2
      exact ⟨h1, h2⟩
    refine wpAny_bind (wpAny_dictEntries hoo' hdo' ?_)
    rw [Array.getElem?_eq_getElem hlt]
    obtain ⟨kv, hkv⟩ : ∃ kv, more[x]? = some kv := ⟨more[x]'(by rw [hlen]; exact hlt), List.getElem?_eq_getElem _⟩
    obtain ⟨k, v⟩ := kv
    obtain ⟨hkey, hval⟩ := hpo.get? (e := eso[x]) (by simp [hlt]) hkv
    rcases hko eso[x] (Array.getElem_mem hlt) with ⟨k', hkey', hhash⟩
    obtain rfl : k' = k := knd.inj _ _ _ hkey' hkey
    show wpAny _ _ (holding [eso[x].key, eso[x].val] (dictPut d eso[x].hash eso[x].key eso[x].val) >>= _) _ _ _
    rw [hhash, hval]
    obtain ⟨htk, hnew⟩ := take_new hnd hkv
    have hmx : (kvs ++ more.take x).length ≤ sizeLine := by
      rw [List.length_append, List.length_take]; (first | lia | omega)
    refine wpAny_bind (wpAny_holding (dictPut_new (hsz := hmx) hkey hd' hnew fun h'' hd'' hs'' => ?_))
    have hoo'' : h''.get? o = some oo := (hs''.2 o (Ne.symm hdo)).trans hoo'
    refine wpAny_bind (wpAny_dictEpoch hoo'' hdo' ?_)
    rw [if_neg (by simp)]
    exact wpAny_pure ⟨h'', x + 1, rfl, hrest, hlt, htk ▸ hd'', hoo'', hs'.trans hs''⟩
  · rintro b s' ⟨h', i, rfl, hr, hi, hd', hoo', hs'⟩
    have hin : i = eso.size := by
      obtain h | h := Nat.lt_or_ge i eso.size
      · have e : eso.size - i = (eso.size - (i + 1)) + 1 := by (first | lia | omega)
        rw [e, List.range'_succ] at hr; exact nomatch hr
      · exact Nat.le_antisymm hi h
    refine wpAny_pure (hQ h' ?_ hs')
    rw [hin, ← hlen, List.take_length] at hd'; exact hd'
end
/-- the pairs of a display, one by one -/
inductive DpL (c : Cx) (ρ : List (Str × D)) : List (Expr × Expr) → List (Str × D) → Prop
  | nil : DpL c ρ [] []
  | cons {ke ve k d pairs kds} : Ev c ρ ke (some (.str k)) → Ev c ρ ve (some d) → DpL c ρ pairs kds → DpL c ρ ((ke, ve) :: pairs) ((k, d) :: kds)
section
variable {c : Cx} {ρ : List (Str × D)}
theorem DpL.dp {pairs : List (Expr × Expr)} {kds : List (Str × D)} (r : DpL c ρ pairs kds) : Dp c ρ pairs kds :=
  DpL.rec (motive := fun p k _ => Dp c ρ p k) Dp.nil (fun a b _ i => Dp.cons a b i) r
theorem DpL.append {p q : List (Expr × Expr)} {k l : List (Str × D)} (r : DpL c ρ p k) (y : DpL c ρ q l) : DpL c ρ (p ++ q) (k ++ l) :=
  DpL.rec (motive := fun p k _ => DpL c ρ (p ++ q) (k ++ l)) y (fun a b _ i => .cons a b i) r
theorem DpL.length {p : List (Expr × Expr)} {k : List (Str × D)} (r : DpL c ρ p k) : k.length = p.length :=
  DpL.rec (motive := fun p k _ => k.length = p.length) rfl (fun _ _ _ i => congrArg (· + 1) i) r
theorem storeLong (O : c.Ok) {d : Addr} {pos : Pos} (hg : c.g.get? d = none) (hL : c.env.locals ≠ d) {Q : PUnit → Shared → Prop} {E : Value → Shared → Prop} {pairs : List (Expr × Expr)} {kds : List (Str × D)} (acc : List (Str × Value)) (accD : List (Str × D)) (s : Shared) (hdp : DpL c ρ pairs kds) : Fm c ρ s.heap →
    s.heap.DictOf (strKind P0 c.w) d acc → acc.map (·.1) = accD.map (·.1) → RdAll c.g s.heap (acc.map (·.2)) (accD.map (·.2)) → ((accD ++ kds).map (·.1)).Nodup → (accD ++ kds).length ≤ 1000 →
    (∀ s' kvs, (∀ b o, b ≠ d → s.heap.get? b = some o → s'.heap.get? b = some o) → Same s s' → Fm c ρ s'.heap → s'.heap.DictOf (strKind P0 c.w) d kvs → kvs.map (·.1) = (accD ++ kds).map (·.1) → RdAll c.g s'.heap (kvs.map (·.2)) ((accD ++ kds).map (·.2)) → Q PUnit.unit s') →
    wpAny c.M c.A (forIn (pairs.map fun p => (eval p.1 c.env, (do let x ← eval p.2 c.env; standAt pos; pure x : Sem Value))) PUnit.unit fun (x : Sem Value × Sem Value) (_ : PUnit) => (do let kv ← x.1; let vv ← holding [kv] x.2; holding [kv, vv] (dictSet d kv vv); pure (ForInStep.yield PUnit.unit) : Sem (ForInStep PUnit))) Q E s := by
  induction hdp generalizing acc accD s with
  | nil =>
    intro F hD hk hr hn hl hQ
    rw [List.map_nil, List.forIn_nil]
    refine wpAny_pure (hQ s acc (fun _ _ _ e => e) (.refl _) F hD ?_ ?_)
    · simpa using hk
    · simpa using hr
  | @cons ke ve k dv pairs kds h1 h2 h3 ih =>
    intro F hD hk hr hn hl hQ
    rw [List.map_cons, List.forIn_cons]
    refine wpAny_bind (wpAny_bind (h1.go1 O s _ _ F (fun v s₁ x₁ rd₁ => ?_)))
    obtain ⟨t, rfl⟩ := Rd.str_inv rd₁
    case _ =>
      refine wpAny_bind (wpAny_holding (wpAny_bind (h2.go1 O s₁ _ _ (F.ext x₁.keep) (fun v₂ s₂ x₂ rd₂ => ?_))))
      refine wpAny_bind (wpAny_standAt (wpAny_pure ?_))
      have F₂ := (F.ext x₁.keep).ext x₂.keep
      have kk := x₁.keep.trans x₂.keep
      have hD₂ : s₂.heap.DictOf (strKind P0 c.w) d acc := by
        rcases hD with ⟨o, es, ep, ho, r⟩
        exact ⟨o, es, ep, kk _ _ ho, r⟩
      have hacc : acc.length ≤ sizeLine := by
        have e1 : acc.length = accD.length := by have := congrArg List.length hk; simpa using this
        rw [List.length_append] at hl
        rw [sizeLine_eq]; (first | lia | omega)
      refine wpAny_bind (wpAny_holding (wpAny_dictSet_pairs (hsz := hacc) (strKind_is P0 c.w k t) hD₂ fun h' hD' hs' => ?_))
      have hnew : k ∉ acc.map (·.1) := by
        rw [hk]
        intro hm
        rw [List.map_append, List.nodup_append] at hn
        exact hn.2.2 _ hm _ (by simp) rfl
      rw [stored_new hnew] at hD'
      rcases id hD₂ with ⟨oD, esD, epD, hoD, hcD, hdD, _⟩
      have kd : ∀ b o, s₂.heap.get? b = some o → (∃ vs n, o.data = .seq vs n) → h'.get? b = some o := fun b o e ⟨ws, n, hq⟩ => (hs'.2 b (neD e hoD hdD hq (fun z => nomatch z))).trans e
      have F' : Fm c ρ h' := F₂.sameC (C := d) ⟨oD, esD, epD, hoD, hdD⟩ hL hg fun b o hb e => (hs'.2 b hb).trans e
      refine wpAny_pure ?_
      dsimp only
      refine ih (acc ++ [(k, v₂)]) (accD ++ [(k, dv)]) { s₂ with heap := h', toks := s₂.toks + 1 } F' hD' (by simp [hk]) ?_ (by simpa using hn) (by simpa using hl) fun s' kvs k' e' F'' hD'' hk'' hr'' => ?_
      · rw [List.map_append, List.map_append]
        exact ((hr.keeps kk).mono (.refl _) kd).append (.cons (rd₂.mono (.refl _) kd) .nil)
      · refine hQ s' kvs (fun b o hb e => k' b o hb ((hs'.2 b hb).trans (kk _ _ e))) ((x₁.same.trans x₂.same).trans ((Same.mk' (s := s₂) (h := h')).trans e')) F'' hD'' (by simpa using hk'') (by simpa using hr'')
end
end Mine
end
section
open PySem PySem.W PySem.Calls PyProof.Rows
set_option Elab.async false
set_option maxRecDepth 100000
set_option linter.unusedVariables false
namespace Mine
section
variable {c : Cx} {ρ : List (Str × D)}
theorem zip_shape {env : Env} {pos : Pos} {keys : List (Option Expr)} : ∀ {values : List Expr}, keys.all (·.isSome) = true → keys.length = values.length →
    (evalEachOpt keys env).zip ((evalEach values env).map fun v => do let x ← v; standAt pos; pure x) = (((keys.filterMap id).zip values).map fun p => (eval p.1 env, (do let x ← eval p.2 env; standAt pos; pure x : Sem Value))).map fun p => (some p.1, p.2) := by
  induction keys with
  | nil => exact fun _ _ => rfl
  | cons o ks ih =>
    intro values h hl
    cases values with
    | nil => exact nomatch hl
    | cons v vs =>
      cases o with
      | none => exact nomatch h
      | some k => exact congrArg _ (ih h (Nat.succ.inj hl))
/-- a dict display of 17 pairs and some more: the dict is fresh -/
theorem DpL.made {keys : List (Option Expr)} {values : List Expr} {pos : Pos} {p1 p2 : List (Expr × Expr)} {a : Expr × Expr} {k1 k2 : List (Str × D)} (h1 : DpL c ρ (p1 ++ [a]) k1) (h2 : DpL c ρ p2 k2) (l1 : p1.length = 16) (l2 : p2.length ≤ 15) (l3 : p2 ≠ [])
    (hn : ((k1 ++ k2).map (·.1)).Nodup) (hall : keys.all (·.isSome) = true) (hlen : keys.length = values.length) (hz : (keys.filterMap id).zip values = p1 ++ (a :: p2))
    (O : c.Ok) {s : Shared} {Q E : Value → Shared → Prop} (F : Fm c ρ s.heap)
    (hQ : ∀ s' (kvs : List (Str × Value)), Ext s s' → s'.heap.DictOf (strKind P0 c.w) s.heap.objs.size kvs → kvs.map (·.1) = (k1 ++ k2).map (·.1) → RdAll c.g s'.heap (kvs.map (·.2)) ((k1 ++ k2).map (·.2)) → Q (.ref s.heap.objs.size) s') :
    wpAny c.M c.A (eval (.Dict keys values pos) c.env) Q E s := by
  let T : Expr × Expr → Sem Value × Sem Value := fun p => (eval p.1 c.env, (do let x ← eval p.2 c.env; standAt pos; pure x : Sem Value))
  have n1 : k1.length = 17 := by rw [h1.length]; simp [l1]
  have n2 : k2.length ≤ 15 := by rw [h2.length]; exact l2
  have hn1 : (k1.map (·.1)).Nodup := by rw [List.map_append, List.nodup_append] at hn; exact hn.1
  have hn2 : (k2.map (·.1)).Nodup := by rw [List.map_append, List.nodup_append] at hn; exact hn.2.1
  rw [arm_eval_Dict, zip_shape hall hlen, hz]
  refine wpAny_bind (wpAny_standAt ?_)
  have hsh : (((p1 ++ (a :: p2)).map fun p => (eval p.1 c.env, (do let x ← eval p.2 c.env; standAt pos; pure x : Sem Value))).map fun p => (some p.1, p.2)) =
      ((p1.map T).map fun p => (some p.1, p.2)) ++ ((some (T a).1, (T a).2) :: ((p2.map T).map fun p => (some p.1, p.2)) ++ []) := by
    simp [T]
  rw [hsh]
  refine display_long (p1.map T) (p2.map T) (T a) (by simpa using l1) (by simp; (first | lia | omega)) (by simpa using l3) ?_
  have hp17 : p1.map T ++ [T a] = (p1 ++ [a]).map T := by simp
  rw [hp17]
  unfold subDict
  refine wpAny_bind (wpAny_alloc ?_)
  have kp : Kp s.heap (s.heap.push { cls := .type "dict", data := .dict #[] }) := fun b o e => Heap.get?_push_of_some _ e
  generalize hd : s.heap.objs.size = d at hQ ⊢
  have hsd : s.heap.get? d = none := by rw [← hd]; exact fresh_size _
  have hgd : c.g.get? d = none := Kp.none F.keep hsd
  have hLd : c.env.locals ≠ d := F.neL hsd
  refine wpAny_bind (wpAny_holding ?_)
  rw [if_neg (by simp [l1])]
  refine wpAny_bind (wpAny_rule ?_)
  refine wpAny_bind (storeLong (pos := pos) O hgd hLd [] [] _ h1 (F.ext kp) (by rw [← hd]; exact Heap.DictOf.new _) rfl .nil (by simpa using hn1) (by simp [n1]) fun s₁ kvs₁ k₁ e₁ F₁ D₁ hk₁ hr₁ => ?_)
  refine wpAny_pure (wpAny_pure ?_)
  have k₀₁ : Kp s.heap s₁.heap := fun b o e => k₁ b o (neN e hsd) (kp b o e)
  refine wpAny_bind (wpAny_alloc ?_)
  rw [if_pos (by simpa using l2)]
  have kp₂ : Kp s₁.heap (s₁.heap.push { cls := .type "dict", data := .dict #[] }) := fun b o e => Heap.get?_push_of_some _ e
  refine wpAny_bind (wpAny_holding ?_)
  refine wpAny_bind (h2.dp.go O _ pos _ E (F₁.ext kp₂) fun vs s₂ kvs₂ x₂ hc₂ hk₂ hr₂ => ?_)
  have hlen₂ : kvs₂.length ≤ 15 := by have := congrArg List.length hk₂; simp at this; (first | lia | omega)
  have hnew : (s₁.heap.push { cls := .type "dict", data := .dict #[] }).get? s₁.heap.objs.size = some { cls := .type "dict", data := .dict #[] } := Heap.get?_push_size _ rfl
  generalize ht : s₁.heap.objs.size = t at hnew
  have ht0 : s₁.heap.get? t = none := by rw [← ht]; exact fresh_size _
  have hot := x₂.keep _ _ hnew
  have hvl := hc₂.length
  refine wpAny_holding (wpAny_bind (wpAny_storeAll (knd := strKind P0 c.w) vs kvs₂ [] s₂ _ hc₂ ⟨_, #[], 0, hot, ⟨rfl, rfl, rfl⟩, rfl, fun _ he => by simp at he, Pairs.nil, List.nodup_nil⟩ (by simp [sizeLine_eq]; (first | lia | omega)) fun h₃ D₃ hs₃ => ?_))
  refine wpAny_pure (wpAny_pure ?_)
  have hm : merged [] kvs₂ = kvs₂ := merged_nil_of_nodup _ (by rw [hk₂]; exact hn2)
  rw [hm] at D₃
  have hdt : d ≠ t := by
    rcases D₁ with ⟨o, es, ep, ho, _⟩
    exact neN ho ht0
  have k₁₃ : Kp s₁.heap h₃ := fun b o e => (hs₃.2 b (neN e ht0)).trans (x₂.keep _ _ (kp₂ b o e))
  have D₁' : h₃.DictOf (strKind P0 c.w) d kvs₁ := by
    rcases D₁ with ⟨o, es, ep, ho, r⟩
    exact ⟨o, es, ep, k₁₃ _ _ ho, r⟩
  have hlen₁ : kvs₁.length = 17 := by have := congrArg List.length hk₁; simpa [n1] using this
  have kd₃ : ∀ b o, s₂.heap.get? b = some o → (∃ vs n, o.data = .seq vs n) → h₃.get? b = some o := fun b o e ⟨ws, n, hq⟩ => (hs₃.2 b (fun q => by rw [q, hot] at e; cases e; cases hq)).trans e
  refine merge_fresh (s := { s₂ with heap := h₃, toks := s₂.toks + vs.length }) hdt ?_ (fun q => by rw [q] at hlen₁; cases hlen₁) D₁' D₃ (by rw [List.map_append, hk₁, hk₂]; simpa using hn) (fun h₄ D₄ hs₄ => ?_) (by rw [sizeLine_eq]; (first | lia | omega))
  · refine beq_eq_false_iff_ne.mpr fun q => ?_
    have h97 : s₁.heap.get? 97 = some (K97 c.w.params) := (O.sta.inK.keeps F₁.keep) _ _ rfl
    have := Heap.lt_size h97
    rw [ht, q] at this
    exact absurd this (by decide)
  · have kd₄ : ∀ b o, h₃.get? b = some o → (∃ vs n, o.data = .seq vs n) → h₄.get? b = some o := fun b o e ⟨ws, n, hq⟩ => (hs₄.2 b (fun q => by
      rcases D₁' with ⟨o', es, ep, ho', _, hd', _⟩
      rw [q, ho'] at e; cases e; rw [hd'] at hq; cases hq)).trans e
    refine hQ _ (kvs₁ ++ kvs₂) ⟨fun b o e => (hs₄.2 b (neN e hsd)).trans (k₁₃ _ _ (k₀₁ _ _ e)), ?_⟩ D₄ (by rw [List.map_append, hk₁, hk₂]; simp) ?_
    · exact ((Same.mk' (s := s) (t := s.toks)).trans e₁).trans ((Same.mk' (s := s₁) (t := s₁.toks)).trans (x₂.same.trans ⟨_, _, rfl⟩))
    · rw [List.map_append, List.map_append]
      refine RdAll.append ?_ ?_
      · exact (RdAll.mono (.refl _) (fun b o e hq => kd₄ b o (k₁₃ _ _ e) hq) (by simpa using hr₁))
      · exact RdAll.mono (.refl _) (fun b o e hq => kd₄ b o (kd₃ b o e hq) hq) hr₂
theorem DpL.take (n : Nat) {p : List (Expr × Expr)} {k : List (Str × D)} (r : DpL c ρ p k) : DpL c ρ (p.take n) (k.take n) := by
  induction r generalizing n with
  | nil => rw [List.take_nil, List.take_nil]; exact .nil
  | cons a b _ ih =>
    cases n with
    | zero => exact .nil
    | succ n => exact .cons a b (ih n)
theorem DpL.drop (n : Nat) {p : List (Expr × Expr)} {k : List (Str × D)} (r : DpL c ρ p k) : DpL c ρ (p.drop n) (k.drop n) := by
  induction r generalizing n with
  | nil => rw [List.drop_nil, List.drop_nil]; exact .nil
  | cons a b r ih =>
    cases n with
    | zero => exact .cons a b r
    | succ n => exact ih n
theorem DpL.madeL {keys : List (Option Expr)} {values : List Expr} {pos : Pos} {kds : List (Str × D)} (h : DpL c ρ ((keys.filterMap id).zip values) kds) (l1 : 17 < kds.length) (l2 : kds.length ≤ 32)
    (hn : (kds.map (·.1)).Nodup) (hall : keys.all (·.isSome) = true) (hlen : keys.length = values.length)
    (O : c.Ok) {s : Shared} {Q E : Value → Shared → Prop} (F : Fm c ρ s.heap)
    (hQ : ∀ s' (kvs : List (Str × Value)), Ext s s' → s'.heap.DictOf (strKind P0 c.w) s.heap.objs.size kvs → kvs.map (·.1) = kds.map (·.1) → RdAll c.g s'.heap (kvs.map (·.2)) (kds.map (·.2)) → Q (.ref s.heap.objs.size) s') :
    wpAny c.M c.A (eval (.Dict keys values pos) c.env) Q E s := by
  have hl := h.length
  have h1 := h.take 17
  have h2 := h.drop 17
  have ht := List.take_append_drop 17 kds
  have e1 : ((keys.filterMap id).zip values).take 17 = ((keys.filterMap id).zip values).take 16 ++ [((keys.filterMap id).zip values)[16]] := by
    rw [List.take_succ_eq_append_getElem (by (first | lia | omega))]
  have e2 : (keys.filterMap id).zip values = ((keys.filterMap id).zip values).take 16 ++ (((keys.filterMap id).zip values)[16] :: ((keys.filterMap id).zip values).drop 17) := by
    have := List.take_append_drop 17 ((keys.filterMap id).zip values)
    rw [e1, List.append_assoc] at this
    exact this.symm
  rw [e1] at h1
  refine DpL.made h1 h2 (by rw [List.length_take]; (first | lia | omega)) (by rw [List.length_drop]; (first | lia | omega)) (fun q => by have := congrArg List.length q; rw [List.length_drop, List.length_nil] at this; (first | lia | omega)) (by rw [ht]; exact hn) hall hlen e2 O F (by rw [ht]; exact hQ)
end
theorem vals_eq {g h : Heap} {kvs : List (Str × Value)} {T : List (Str × Value)} : kvs.map (·.1) = (T.map fun p => (p.1, D.val p.2)).map (·.1) → RdAll g h (kvs.map (·.2)) ((T.map fun p => (p.1, D.val p.2)).map (·.2)) → kvs = T := by
  induction T generalizing kvs with
  | nil =>
    intro e _
    cases kvs with
    | nil => rfl
    | cons => exact nomatch e
  | cons q T ih =>
    intro e r
    cases kvs with
    | nil => exact nomatch e
    | cons p kvs =>
      obtain ⟨v, vs, e2, x, y⟩ := r.cons_inv
      have e1 := List.cons.inj e
      have e2 := List.cons.inj e2
      rw [ih e1.2 (e2.2 ▸ y), show p = q from Prod.ext e1.1 (e2.1.trans x.val_inv.symm)]
/-- something called that gives a fresh dict -/
structure CallMap (k : Nat) (f : Value) (kvs : List (Str × Value)) : Prop where
  keep : ∀ (w : World) (h : Heap), Sta w h → ∃ k, (k = Keeper.frame ∨ k = Keeper.machine ∨ k = Keeper.boundFrame) ∧ Looks (model P0 w) h (keeperOf f) k
  go : ∀ (w : World) (A : Around) (base : Heap) (outer : List Env) (s : Shared) (Q E : Value → Shared → Prop),
    A.handled = none → A.depth + k < recursionLimit → A.units + 10 * k + 100 < cLine → A.frames = some outer → s.heap.FunFrames base outer → base.StaysIn s.heap → Sta w s.heap →
    (∀ a s', Ext s s' → s.heap.get? a = none → 97 < a → s'.heap.DictOf (strKind P0 w) a kvs → Q (.ref a) s') → wpAny (model P0 w) A (call f []) Q E s
theorem CallMap.fn {n : Nat} {f : Addr} {kvs : List (Str × Value)} {name : Str} {params : Arguments} {e : Expr} {rp : Pos} {scope : Scope} {ps : Pos} (i : Nat)
    (hg : ∀ P, nsIn (Ks P) mainGlobals name = some (some (.ref f)))
    (hst : P0.main.body[i]? = some (PySem.Stmt.FunctionDef name params [.Return (some e) rp] [] none [] scope none name ps))
    (hbind : ∀ (pm cd doc : Value), bindArgs (docDef name params [.Return (some e) rp] scope pm cd doc) ⟨[], []⟩ = Pure.pure [])
    (hcell : (scope.names.all fun x => x.2 != .cell) = true)
    (hk : scope.kind = .function) (hco : scope.isCoroutine = false) (hgen : scope.isGenerator = false)
    (h : ∀ c : Cx, c.n = n → c.ns = scope.names → c.Ok → ∀ (s : Shared) (Q E : Value → Shared → Prop), Fm c [] s.heap → (∀ a s', Ext s s' → s.heap.get? a = none → 97 < a → s'.heap.DictOf (strKind P0 c.w) a kvs → Q (.ref a) s') → wpAny c.M c.A (eval e c.env) Q E s) :
    CallMap (n + 1) (.ref f) kvs := by
  refine ⟨fun w h hsta => ?_, ?_⟩
  · rcases hsta.fn _ _ _ _ _ _ hst with ⟨f', fo, pm, cd, doc, ⟨mg, hmg, hmf⟩, ho', hod, hcd⟩
    rw [mg_of hsta.inK hmg (hg _)] at hmf
    cases hmf
    refine ⟨.frame, .inl rfl, (Looks.ld (part := none) ho').andThen ?_⟩
    rw [hod]
    exact .now
  intro w A base outer s Q E hA hd hu hfr hfun hst' hsta hQ
  rcases hsta.fn _ _ _ _ _ _ hst with ⟨f', fo, pm, cd, doc, ⟨mg, hmg, hmf⟩, ho', hod, hcd⟩
  rw [mg_of hsta.inK hmg (hg _)] at hmf
  cases hmf
  refine wpAny_call ?_
  refine enter (n := n) (binds := []) (ds := []) hA (by (first | lia | omega)) (by (first | lia | omega)) hfr hfun hst' hsta (.refl _) ho' hod hcd rfl (BindsTo.of_eq (hbind pm cd doc)) (fun x hx e => by have := List.all_eq_true.mp hcell x hx; simp [e] at this) (fun x hx => by simp at hx) .nil rfl rfl hco hgen hk fun c hn hs hgg hb ho hw O h₁ tk F k₁ => ?_
  subst hw
  refine wpAny_execs_cons (wpAny_Return_some ?_)
  refine h c hn hs O { s with heap := h₁, toks := tk } _ _ F fun a s' x ha h97 hD => ?_
  refine hQ a s' ⟨k₁.trans x.keep, (Same.mk' (s := s)).trans x.same⟩ ?_ h97 hD
  cases q : s.heap.get? a with
  | none => rfl
  | some o => have := k₁ _ _ q; rw [ha] at this; cases this
/-- the same over the display's own two lists -/
inductive DpZ (c : Cx) (ρ : List (Str × D)) : List (Option Expr) → List Expr → List (Str × D) → Prop
  | nil : DpZ c ρ [] [] []
  | cons {ke ve k d ks vs kds} : Ev c ρ ke (some (.str k)) → Ev c ρ ve (some d) → DpZ c ρ ks vs kds → DpZ c ρ (some ke :: ks) (ve :: vs) ((k, d) :: kds)
theorem DpZ.dpl {c : Cx} {ρ : List (Str × D)} {ks : List (Option Expr)} {vs : List Expr} {kds : List (Str × D)} (r : DpZ c ρ ks vs kds) : DpL c ρ ((ks.filterMap id).zip vs) kds ∧ ks.all (·.isSome) = true ∧ ks.length = vs.length ∧ kds.length = ks.length :=
  DpZ.rec (motive := fun ks vs kds _ => DpL c ρ ((ks.filterMap id).zip vs) kds ∧ ks.all (·.isSome) = true ∧ ks.length = vs.length ∧ kds.length = ks.length)
    ⟨.nil, rfl, rfl, rfl⟩ (fun a b _ i => ⟨.cons a b i.1, i.2.1, congrArg (· + 1) i.2.2.1, congrArg (· + 1) i.2.2.2⟩) r
end Mine
end
end
section
--INV
set_option hygiene false in
local macro_rules | `(tactic| cases $x:ident) => `(tactic| first
  | (have some_inj_eq := Option.some.inj $x; clear $x; subst some_inj_eq)
  | exact (some_none $x).elim | exact (none_some $x).elim
  | (obtain ⟨_, rfl⟩ := Rd.int_inv $x) | (obtain ⟨_, rfl⟩ := Rd.str_inv $x) | (obtain rfl := Rd.val_inv $x) | (obtain rfl := Rd.bool_inv $x) | (obtain rfl := Rd.none_inv $x)
  | (obtain ⟨⟩ := $x:ident))
--/INV
section
open PySem PySem.W PySem.Calls PyProof.Rows
set_option Elab.async false
set_option maxRecDepth 100000
set_option linter.unusedVariables false
namespace Mine
section
variable {c : Cx} {ρ : List (Str × D)}
theorem beq_false_symm {x y : Str} (h : (x == y) = false) : (y == x) = false := by
  rw [beq_eq_false_iff_ne] at h ⊢
  exact Ne.symm h
theorem Fm.weak {x : Str} {d : D} {h : Heap} (F : Fm c ((x, d) :: ρ) h) (hx : ρ.lookup x = none) : Fm c ρ h := by
  have up : ∀ y e, ρ.lookup y = some e → ((x, d) :: ρ).lookup y = some e := fun y e hy => by
    rw [List.lookup_cons]
    cases q : (y == x) with
    | true => rw [eq_of_beq q, hx] at hy; cases hy
    | false => exact hy
  exact ⟨let ⟨m, a, b⟩ := F.ns; ⟨m, a, fun y e hy hc => b y e (up y e hy) hc⟩, fun y e hy hc => F.cl y e (up y e hy) hc, F.keep, F.ce⟩
theorem CallMap.here {k : Nat} {f : Value} {kvs : List (Str × Value)} (C : CallMap k f kvs) (O : c.Ok) (hk : k ≤ c.n) {s : Shared} (F : Fm c ρ s.heap) {Q E : Value → Shared → Prop}
    (hQ : ∀ a s', Ext s s' → s.heap.get? a = none → 97 < a → s'.heap.DictOf (strKind P0 c.w) a kvs → Q (.ref a) s') : wpAny c.M c.A (call f []) Q E s :=
  C.go c.w c.A c.base c.fr s Q E O.handled (by have := O.depth; (first | lia | omega)) (by have := O.units; (first | lia | omega)) O.frames (O.funs' F) (fun b o e => F.keep b o (O.stays b o e)) (O.sta.keeps F.keep) hQ
/-- f() gives a fresh dict -/
theorem callMap_eval {func : Expr} {pos : Pos} {k : Nat} {f : Value} {kvs : List (Str × Value)} (hf : Ev c ρ func (some (.val f))) (C : CallMap k f kvs) (hk : k ≤ c.n) (O : c.Ok) {s : Shared} (F : Fm c ρ s.heap) {Q E : Value → Shared → Prop}
    (harm : autoParam (∀ env, eval (.Call func [] [] pos) env = (do callWith pos (← eval func env) [] (backTo pos (starEach [] env)) (backToKw pos (keywordEach [] env)))) aiRfl)
    (hQ : ∀ a s', Ext s s' → s.heap.get? a = none → 97 < a → s'.heap.DictOf (strKind P0 c.w) a kvs → Q (.ref a) s') : wpAny c.M c.A (eval (.Call func [] [] pos) c.env) Q E s := by
  rw [harm]
  refine wpAny_bind (hf.go1 O s _ _ F (fun v s₁ x rd => ?_))
  cases rd
  refine callWith_any rfl C.keep ?_
  refine Evs.nil.go O s₁ pos _ E (F.ext x.keep) fun vs s₂ x₂ rs => ⟨O.sta.keeps ((F.ext x.keep).ext x₂.keep).keep, ?_⟩
  cases rs
  refine C.here O hk ((F.ext x.keep).ext x₂.keep) fun a s' x' ha h97 hD => hQ a s' ((x.trans x₂).trans x') ?_ h97 hD
  cases q : s.heap.get? a with
  | none => rfl
  | some o => have := x₂.keep _ _ (x.keep _ _ q); rw [ha] at this; cases this
theorem DictOf.kp {w : World} {h h' : Heap} {a : Addr} {kvs : List (Str × Value)} (hD : h.DictOf (strKind P0 w) a kvs) (k : ∀ o, h.get? a = some o → h'.get? a = some o) : h'.DictOf (strKind P0 w) a kvs := by
  obtain ⟨o, es, ep, ho, r⟩ := hD
  exact ⟨o, es, ep, k _ ho, r⟩
theorem DictAt.kp {w : World} {h h' : Heap} {a : Addr} {kvs : List (Str × Value)} {ep : Nat} (hD : h.DictAt (strKind P0 w) a kvs ep) (k : ∀ o, h.get? a = some o → h'.get? a = some o) : h'.DictAt (strKind P0 w) a kvs ep := by
  obtain ⟨o, es, ho, r⟩ := hD
  exact ⟨o, es, k _ ho, r⟩
theorem DictOf.ex {w : World} {h : Heap} {a : Addr} {kvs : List (Str × Value)} (hD : h.DictOf (strKind P0 w) a kvs) : ∃ o es ep, h.get? a = some o ∧ o.data = .dict es ep := by
  obtain ⟨o, es, ep, ho, _, hd, _⟩ := hD
  exact ⟨o, es, ep, ho, hd⟩
theorem DictOf.ne {w : World} {h : Heap} {a I : Addr} {kvs : List (Str × Value)} (hD : h.DictOf (strKind P0 w) a kvs) (n : h.get? I = Option.none) : a ≠ I := by
  obtain ⟨_, _, _, ho, _⟩ := hD
  exact neN ho n
theorem DictOf.kpc {w : World} {h h' : Heap} {a : Addr} {kvs : List (Str × Value)} (hD : h.DictOf (strKind P0 w) a kvs) (k : ∀ o, (∀ v, o.data ≠ .cell v) → h.get? a = some o → h'.get? a = some o) : h'.DictOf (strKind P0 w) a kvs := by
  obtain ⟨o, es, ep, ho, hc, hd, r⟩ := hD
  exact ⟨o, es, ep, k _ (fun v q => nomatch hd.symm.trans q) ho, hc, hd, r⟩
theorem DictAt.kpc {w : World} {h h' : Heap} {a : Addr} {kvs : List (Str × Value)} {ep : Nat} (hD : h.DictAt (strKind P0 w) a kvs ep) (k : ∀ o, (∀ v, o.data ≠ .cell v) → h.get? a = some o → h'.get? a = some o) : h'.DictAt (strKind P0 w) a kvs ep := by
  obtain ⟨o, es, ho, hc, hd, r⟩ := hD
  exact ⟨o, es, k _ (fun v q => nomatch hd.symm.trans q) ho, hc, hd, r⟩
inductive TabInv (c : Cx) (ρ : List (Str × D)) (s : Shared) (a I T : Addr) (ep : Nat) (acc more : List (Str × Value)) (n : Nat) (s' : Shared) : Prop
  | mk (i : Nat) (ok ov : Value) (e : n = more.length + 1 - i) (hi : i ≤ more.length) (it : IsItemIter s'.heap I a i more.length ep ok ov) (da : s'.heap.DictAt (strKind P0 c.w) a more ep) (dt : s'.heap.DictOf (strKind P0 c.w) T (acc ++ more.take i)) (F : Fm c ρ s'.heap)
    (kp : ∀ b o, b ≠ c.env.locals → b ≠ T → (∀ v, o.data ≠ .cell v) → s.heap.get? b = some o → s'.heap.get? b = some o) (sm : Same s s')
set_option maxHeartbeats 1000000 in
/-- for x, y in f().items(): t[x] = y -/
theorem tables_loop {func : Expr} {xk xv tb : Str} {pk pv pt pc pa pi p1 p2 p3 p4 p5 pos : Pos} {x1 k : Nat} {f : Value} {T : Addr} {acc more : List (Str × Value)} {ns : List (Str × NameKind)} (O : c.Ok) {s : Shared} (hs : c.ns = ns)
    (hxk : ns.lookup xk = some .local) (hxv : ns.lookup xv = some .local) (htb : ns.lookup tb = some .local) (hne1 : (xk == xv) = false) (hne2 : (tb == xv) = false) (hne3 : (tb == xk) = false)
    (hb1 : (xk == ("__debug__" : Str)) = false) (hb2 : (xv == ("__debug__" : Str)) = false) (hb3 : (tb == ("__debug__" : Str)) = false)
    (hl : ρ.lookup tb = some (.val (.ref T))) (hnk : ρ.lookup xk = none) (hnv : ρ.lookup xv = none)
    (F : Fm c ρ s.heap) (hT : s.heap.DictOf (strKind P0 c.w) T acc) (hTL : c.env.locals ≠ T) (hgT : c.g.get? T = none) (hnd : ((acc ++ more).map (·.1)).Nodup) (hlen : (acc ++ more).length ≤ 1000)
    (hf : Ev c ρ func (some (.val f))) (C : CallMap k f more) (hk : k ≤ c.n) (hline : (pi.endLine == pa.line) = true) {Q : Flow → Shared → Prop} {E : Value → Shared → Prop}
    (harm : autoParam (∀ env, eval (.Call func [] [] pc) env = (do callWith pc (← eval func env) [] (backTo pc (starEach [] env)) (backToKw pc (keywordEach [] env)))) aiRfl)
    (hbase : autoParam (∀ env, attributeBase (.Call func [] [] pc) "items" env (eval (.Call func [] [] pc) env) = eval (.Call func [] [] pc) env) aiRfl)
    (hfs : autoParam (∀ env x, foldedSetIterable (.Call (.Attribute (.Call func [] [] pc) "items" pi) [] [] pa) env x = pure x) aiRfl)
    (hsw : autoParam (∀ env, swapsWith (.Name xv p4) (some (.Subscript (.Name tb p1) (.Name xk p2) p3)) p5.line env = pure false) aiRfl)
    (hQ : ∀ s', (∀ b o, b ≠ c.env.locals → b ≠ T → (∀ v, o.data ≠ .cell v) → s.heap.get? b = some o → s'.heap.get? b = some o) → Same s s' → Fm c ρ s'.heap → s'.heap.DictOf (strKind P0 c.w) T (acc ++ more) → Q .next s') :
    wpAny c.M c.A (exec (.For (.Tuple [.Name xk pk, .Name xv pv] x1 pt) (.Call (.Attribute (.Call func [] [] pc) "items" pi) [] [] pa) [.Assign [.Subscript (.Name tb p1) (.Name xk p2) p3] (.Name xv p4) p5] [] pos) c.env) Q E s := by
  refine wpAny_For ?_ (hfs _)
  refine wpAny_Call_method (T := "dict") (id := "dict.items") (hbase _) rfl hline PySem.F.plainAttrs_dict PySem.F.slot_dict_items PySem.F.type_dict_items ?_
  refine callMap_eval hf C hk O F harm fun a s₁ x₁ ha h97 hD => ?_
  have F₁ := F.ext x₁.keep
  have haS : (a == sysModules) = false := beq_eq_false_iff_ne.mpr fun q => by rw [q] at h97; exact absurd h97 (by decide)
  refine ⟨hD.typeIs, hD.mapOf.noDict, ?_⟩
  show wpAny _ _ (callWith pa (.builtin "dict.items") [.ref a] [] []) _ _ _
  refine method_meetsIn PySem.F.slot_dict_items PySem.F.entry_dict_items rfl (PySem.evalArgs_none ⟨rfl, hD.typeIs, PySem.F.args_dict_items_1 _, _, meets_dict_items (strKind P0 c.w) a haS, ⟨more, hD⟩, ?_⟩)
  obtain ⟨ep, hDA⟩ := hD.dictAt
  show wpAny _ _ (pyIter _) _ _ _
  generalize hH : s₁.heap.push { cls := Value.type "dict_items", data := Data.fields #[Value.ref a] } = H
  have kpV : Kp s₁.heap H := fun b o e => hH ▸ Heap.get?_push_of_some _ e
  refine wpAny_pyIter_items (knd := strKind P0 c.w) (d := a) (kvs := more) (ep := ep) ⟨_, hH ▸ Heap.get?_push_size _ rfl, rfl, rfl⟩ (DictAt.kp hDA (kpV _)) ?_
  dsimp only
  have hI0 : H.get? H.objs.size = none := fresh_size _
  have hnewI := Heap.get?_push_size (h := H) (o := { cls := .type "dict_itemiterator", data := .fields #[.none, .bool false, .ref a, .int 0 0, .int more.length 0, .int ep 0, .none, .none] }) rfl
  have kpI : Kp H (H.push { cls := .type "dict_itemiterator", data := .fields #[.none, .bool false, .ref a, .int 0 0, .int more.length 0, .int ep 0, .none, .none] }) := fun b o e => Heap.get?_push_of_some _ e
  generalize hIe : H.objs.size = I at hI0 hnewI ⊢
  have keep0 : Kp s.heap H := x₁.keep.trans kpV
  have hgI : c.g.get? I = none := Kp.none F.keep (Kp.none keep0 hI0)
  have hga : c.g.get? a = none := Kp.none F.keep ha
  have hsI : s.heap.get? I = none := Kp.none keep0 hI0
  have hLI : c.env.locals ≠ I := F.neL hsI
  have hLa : c.env.locals ≠ a := F.neL ha
  have hTI : T ≠ I := DictOf.ne hT hsI
  have hTa : T ≠ a := DictOf.ne hT ha
  have haI : a ≠ I := DictOf.ne (DictOf.kp hD fun o e => kpV _ _ e) hI0
  refine codeAny_forLoop_any (TabInv c ρ s a I T ep acc more) ?_ (more.length + 1)
    ⟨0, .none, .none, rfl, Nat.zero_le _, hnewI, DictAt.kp hDA fun o e => kpI _ _ (kpV _ _ e), by simpa using DictOf.kp hT fun o e => kpI _ _ (keep0 _ _ e), (F₁.ext kpV).ext kpI, fun b o _ _ _ e => kpI _ _ (keep0 _ _ e), x₁.same.trans ⟨_, _, rfl⟩⟩
  intro n s₂ hri0
  refine Classical.byContradiction fun hGoal0 => ?_
  obtain ⟨i, ok, ov, rfl, hi, hit, hDA₂, hT₂, F₂, k₂, e₂⟩ := hri0
  refine hGoal0 ?_
  clear hGoal0
  cases hv : more[i]? with
  | none =>
    have hin : i = more.length := Nat.le_antisymm hi (by simpa using hv)
    refine wpAny_pyNext_items_end O.handled hit hDA₂ hv fun h' he => wpAny_execs_nil ?_
    have F₃ : Fm c ρ h' := F₂.sameBut (c := c) hit rfl hgI he
    refine hQ _ (fun b o hL hbT hc e => he b o (neN e hsI) (k₂ b o hL hbT hc e)) (e₂.trans ⟨_, _, rfl⟩) F₃ ?_
    have := DictOf.kp hT₂ (h' := h') fun o e => he _ _ hTI e
    rwa [hin, List.take_length] at this
  | some kv =>
    obtain ⟨kk, v⟩ := kv
    have hlt : i < more.length := (List.getElem?_eq_some_iff.mp hv).1
    refine wpAny_pyNext_items_item hit hDA₂ hv fun key h₃ hkey heo ht₃ hz₃ hk₃ => ?_
    refine wpAny_letOwnedTupleGo_items (s := { s₂ with heap := h₃ }) heo fun h₄ he₄ hs₄ => ?_
    have F₃ : Fm c ρ h₃ := F₂.sameBut (c := c) hit rfl hgI hk₃
    have F₄ : Fm c ρ h₄ := F₃.sameBut (c := c) heo rfl hgI (fun b o hb e => (hs₄.2 b hb).trans e)
    have hsz₂ : I < s₂.heap.objs.size := Heap.lt_size hit
    have ht₄ : IsTup h₄ s₂.heap.objs.size #[key, v] := ⟨_, (hs₄.2 _ (Nat.ne_of_gt hsz₂)).trans ht₃, rfl, _, rfl⟩
    refine assign_Tuple_tuple (s := { s₂ with heap := h₄ }) O.handled ht₄ rfl rfl fun h₅ he₅ => ?_
    have k₄₅ : Kp h₄ h₅ := fun b o e => he₅ b o (Nat.ne_of_lt (Heap.lt_size e)) e
    have F₅ := F₄.ext k₄₅
    obtain ⟨tk, rfl⟩ := Value.isStrOf_shape hkey
    refine assignInOrder_cons (assign_name_ok (s := { s₂ with heap := h₅ }) O F₅ (.str kk tk) (hs ▸ hxk) fun s₆ kl₆ e₆ F₆ => ?_)
    refine assignInOrder_cons (assign_name_ok (d := .val v) O F₆ (.val v) (hs ▸ hxv) fun s₇ kl₇ e₇ F₇ => assignInOrder_nil ?_)
    have l1 : (((xv, D.val v) :: (xk, D.str kk) :: ρ)).lookup xv = some (.val v) := by simp
    have l2 : (((xv, D.val v) :: (xk, D.str kk) :: ρ)).lookup xk = some (.str kk) := by simp [List.lookup_cons, hne1]
    have l3 : (((xv, D.val v) :: (xk, D.str kk) :: ρ)).lookup tb = some (.val (.ref T)) := by simp [List.lookup_cons, hne2, hne3, hl]
    refine wpAny_execs_cons (wpAny_Assign_Subscript (hs := hsw _) ?_)
    refine (Ev.loc hs hxv l1 hb2).go1 O s₇ _ _ F₇ (fun v₈ s₈ x₈ r₈ => ?_)
    cases r₈
    have F₈ := F₇.ext x₈.keep
    refine (Ev.loc hs htb l3 hb3).go1 O s₈ _ _ F₈ (fun v₉ s₉ x₉ r₉ => ?_)
    cases r₉
    have F₉ := F₈.ext x₉.keep
    refine (Ev.loc hs hxk l2 hb1).go1 O s₉ _ _ F₉ (fun v₁ s₁₀ x₁₀ r₁₀ => ?_)
    obtain ⟨t, rfl⟩ := Rd.str_inv r₁₀
    case _ =>
      have F₁₀ := F₉.ext x₁₀.keep
      have kx := x₈.keep.trans (x₉.keep.trans x₁₀.keep)
      have k₃₁₀ : ∀ b o, b ≠ c.env.locals → (∀ v, o.data ≠ .cell v) → h₄.get? b = some o → s₁₀.heap.get? b = some o := fun b o hL hc e => kx _ _ (kl₇ _ _ hL hc (kl₆ _ _ hL hc (k₄₅ _ _ e)))
      have k₂₄ : ∀ b o, b ≠ I → s₂.heap.get? b = some o → h₄.get? b = some o := fun b o hb e => (hs₄.2 b hb).trans (hk₃ b o hb e)
      have hT₁₀ : s₁₀.heap.DictOf (strKind P0 c.w) T (acc ++ more.take i) := DictOf.kpc hT₂ fun o hc e => k₃₁₀ _ _ hTL.symm hc (k₂₄ _ _ hTI e)
      have hmx : (acc ++ more.take i).length ≤ sizeLine := by
        rw [List.length_append] at hlen ⊢
        rw [List.length_take, sizeLine_eq]; (first | lia | omega)
      refine wpAny_setItem_pairs (hsz := hmx) (strKind_is P0 c.w kk t) hT₁₀ fun h₁₁ hT₁₁ hs₁₁ => ?_
      obtain ⟨htk, hnew⟩ := take_new hnd hv
      rw [stored_new hnew, ← htk] at hT₁₁
      have F₁₁ := F₁₀.sameC (C := T) (DictOf.ex hT₁₀) hTL hgT fun b o hb e => (hs₁₁.2 b hb).trans e
      refine wpAny_execs_nil ?_
      refine ⟨more.length + 1 - (i + 1), ctr hlt, i + 1, .str kk tk, v, rfl, hlt, ?_, ?_, hT₁₁, (F₁₁.weak ?_).weak hnk, fun b o hL hbT hc e => ?_, ?_⟩
      · exact (hs₁₁.2 _ hTI.symm).trans (k₃₁₀ _ _ hLI.symm (fun _ z => nomatch z) he₄)
      · exact DictAt.kpc hDA₂ fun o hc e => (hs₁₁.2 _ hTa.symm).trans (k₃₁₀ _ _ hLa.symm hc (k₂₄ _ _ haI e))
      · rw [List.lookup_cons, beq_false_symm hne1, hnv]
      · exact (hs₁₁.2 _ hbT).trans (k₃₁₀ _ _ hL hc (k₂₄ _ _ (neN e hsI) (k₂ b o hL hbT hc e)))
      · exact (e₂.trans (Same.mk' (s := s₂) (h := h₅))).trans ((e₆.trans e₇).trans ((x₈.same.trans (x₉.same.trans x₁₀.same)).trans ⟨_, _, rfl⟩))
end
end Mine
end
end
section
--INV
set_option hygiene false in
local macro_rules | `(tactic| cases $x:ident) => `(tactic| first
  | (have some_inj_eq := Option.some.inj $x; clear $x; subst some_inj_eq)
  | exact (some_none $x).elim | exact (none_some $x).elim
  | (obtain ⟨_, rfl⟩ := Rd.int_inv $x) | (obtain ⟨_, rfl⟩ := Rd.str_inv $x) | (obtain rfl := Rd.val_inv $x) | (obtain rfl := Rd.bool_inv $x) | (obtain rfl := Rd.none_inv $x)
  | (obtain ⟨⟩ := $x:ident))
set_option hygiene false in
local macro_rules | `(tactic| rcases $e:term with $p:rcasesPatMed) => `(tactic| (refine Classical.byContradiction fun hGoal0 => ?_; obtain $p:rcasesPatMed := $e:term <;> (refine hGoal0 ?_; clear hGoal0)))
--/INV
section
open PySem PySem.W PySem.Calls PyProof.Rows
set_option Elab.async false
set_option maxRecDepth 100000
set_option linter.unusedVariables false
namespace Mine
/-- a frame's context over a later heap -/
noncomputable
def Cx.re (c : Cx) (h : Heap) : Cx := { c with g := hid c.env.locals h }
theorem re_ok {c : Cx} {ρ : List (Str × D)} {h : Heap} (O : c.Ok) (F : Fm c ρ h) (hc : c.comp = false) : (c.re h).Ok ∧ Kp c.g (c.re h).g ∧ Kp (c.re h).g h := by
  have k1 : Kp c.g (c.re h).g := fun b o e => hid_get (F.keep _ _ e) (neN e O.new)
  have k2 : Kp (c.re h).g h := fun b o e => (of_hid e).1
  refine ⟨⟨O.kind, O.names, O.globals, O.builtins, O.frame, O.handled, O.depth, O.units, O.frames, O.frEq, fun hc => ?_, fun h => ?_, fun b o e => k1 _ _ (O.stays _ _ e), O.sta.keeps k1, hideAll_none [c.env.locals] (.head _)⟩, k1, k2⟩
  · exact (O.funs hc).of_keeps fun b o e _ => ⟨o, k1 b o e, rfl⟩
  · have h : c.comp = true := h
    rw [hc] at h; cases h
/-- a list of ints that stands in the heap's base -/
noncomputable
def IntsAt (is : List Int) (g : Heap) (a : Addr) : Prop := ∃ o vs n, g.get? a = some o ∧ o.cls = .type "list" ∧ o.data = .seq vs n ∧ RdAll g g vs.toList (is.map D.int)
theorem IntsAt.keeps {is : List Int} {g g' : Heap} {a : Addr} (k : Kp g g') (x : IntsAt is g a) : IntsAt is g' a :=
  let ⟨o, vs, n, h1, h2, h3, h4⟩ := x; ⟨o, vs, n, k _ _ h1, h2, h3, RdAll.mono k (fun b o e _ => k b o e) h4⟩
/-- a dict with text keys that stands in the heap's base -/
noncomputable
def TabAt (w : World) (T : List (Str × Value)) (g : Heap) (a : Addr) : Prop := 97 < a ∧ g.DictOf (strKind P0 w) a T
theorem TabAt.keeps {w : World} {T : List (Str × Value)} {g g' : Heap} {a : Addr} (k : Kp g g') (x : TabAt w T g a) : TabAt w T g' a := ⟨x.1, DictOf.kp x.2 (k _)⟩
theorem Rd.ints {g h : Heap} : ∀ {is : List Int} {vs : List Value}, RdAll g h vs (is.map D.int) → ∀ g' h', RdAll g' h' vs (is.map D.int)
  | [], [], _, _, _ => .nil
  | [], _ :: _, r, _, _ => by cases r
  | _ :: _, _, r, g', h' => by
    cases r with
    | cons a b =>
      cases a
      exact .cons (.int _ _) (Rd.ints b g' h')
section
variable {c : Cx} {ρ : List (Str × D)}
set_option maxHeartbeats 1000000 in
theorem Exs.tables {nf tf : Expr} {tb xk xv nb : Str} {pt0 pc0 ps0 : Pos} {pk pv pt pc pa pi p1 p2 p3 p4 p5 pos : Pos} {x1 k1 k2 : Nat} {f1 f2 : Value} {acc more : List (Str × Value)} {ns : List (Str × NameKind)} {is : List Int} {rest : List Stmt} {d : D} (hs : c.ns = ns) (hcm : c.comp = false)
    (hxk : ns.lookup xk = some .local) (hxv : ns.lookup xv = some .local) (htb : ns.lookup tb = some .local) (hnbl : ns.lookup nb = some .local) (hne1 : (xk == xv) = false) (hne2 : (tb == xv) = false) (hne3 : (tb == xk) = false) (hne4 : (nb == tb) = false)
    (hb1 : (xk == ("__debug__" : Str)) = false) (hb2 : (xv == ("__debug__" : Str)) = false) (hb3 : (tb == ("__debug__" : Str)) = false)
    (hnb : ρ.lookup nb = some (.lst (is.map D.int))) (hnk : ρ.lookup xk = none) (hnv : ρ.lookup xv = none)
    (hf1 : Ev c ρ nf (some (.val f1))) (C1 : CallMap k1 f1 acc) (hk1 : k1 ≤ c.n)
    (hf2 : ∀ T, Ev c ((tb, .val (.ref T)) :: ρ) tf (some (.val f2))) (C2 : CallMap k2 f2 more) (hk2 : k2 ≤ c.n) (hnd : ((acc ++ more).map (·.1)).Nodup) (hlen : (acc ++ more).length ≤ 1000) (hline : (pi.endLine == pa.line) = true)
    (hd : d.deep = true) (hnc : ∀ x, ns.lookup x ≠ some .cell)
    (hR : ∀ c' : Cx, c'.n = c.n → c'.ns = ns → c'.w = c.w → c'.comp = false → c'.outer = c.outer → Exs c' [(tb, .tab (TabAt c.w (acc ++ more))), (nb, .tab (IntsAt is))] rest (.ret d))
    (harm0 : autoParam (∀ env, eval (.Call nf [] [] pc0) env = (do callWith pc0 (← eval nf env) [] (backTo pc0 (starEach [] env)) (backToKw pc0 (keywordEach [] env)))) aiRfl)
    (hw0 : autoParam (∀ env, swapsWith (.Call nf [] [] pc0) (some (.Name tb pt0)) ps0.line env = pure false) aiRfl)
    (harm : autoParam (∀ env, eval (.Call tf [] [] pc) env = (do callWith pc (← eval tf env) [] (backTo pc (starEach [] env)) (backToKw pc (keywordEach [] env)))) aiRfl)
    (hbase : autoParam (∀ env, attributeBase (.Call tf [] [] pc) "items" env (eval (.Call tf [] [] pc) env) = eval (.Call tf [] [] pc) env) aiRfl)
    (hfs : autoParam (∀ env x, foldedSetIterable (.Call (.Attribute (.Call tf [] [] pc) "items" pi) [] [] pa) env x = pure x) aiRfl)
    (hsw : autoParam (∀ env, swapsWith (.Name xv p4) (some (.Subscript (.Name tb p1) (.Name xk p2) p3)) p5.line env = pure false) aiRfl) :
    Exs c ρ (.Assign [.Name tb pt0] (.Call nf [] [] pc0) ps0 :: .For (.Tuple [.Name xk pk, .Name xv pv] x1 pt) (.Call (.Attribute (.Call tf [] [] pc) "items" pi) [] [] pa) [.Assign [.Subscript (.Name tb p1) (.Name xk p2) p3] (.Name xv p4) p5] [] pos :: rest) (.ret d) := by
  refine ⟨fun O s Q E F hq => ?_⟩
  refine wpAny_execs_cons (wpAny_Assign_Name ?_ (hw0 _))
  refine callMap_eval hf1 C1 hk1 O F harm0 fun T s₁ x₁ hT0 h97 hD => ?_
  have F₁ := F.ext x₁.keep
  refine bindName_ok (d := .val (.ref T)) O F₁ (.val _) (hs ▸ htb) fun s₂ kl₂ e₂ F₂ => ?_
  have hgT : c.g.get? T = none := Kp.none F.keep hT0
  have hTL : c.env.locals ≠ T := F.neL hT0
  have nd : ∀ {o : Obj} {es ep}, o.data = .dict es ep → ∀ v, o.data ≠ .cell v := fun h v q => by rw [h] at q; cases q
  have hD₂ : s₂.heap.DictOf (strKind P0 c.w) T acc := by
    rcases hD with ⟨o, es, ep, ho, hc, hd, r⟩
    exact ⟨o, es, ep, kl₂ _ _ hTL.symm (nd hd) ho, hc, hd, r⟩
  have hkt : (xk == tb) = false := beq_false_symm hne3
  have hvt : (xv == tb) = false := beq_false_symm hne2
  refine wpAny_execs_cons (tables_loop (ρ := (tb, .val (.ref T)) :: ρ) O hs hxk hxv htb hne1 hne2 hne3 hb1 hb2 hb3 (by simp) (by rw [List.lookup_cons, hkt]; exact hnk) (by rw [List.lookup_cons, hvt]; exact hnv) F₂ hD₂ hTL hgT hnd hlen (hf2 T) C2 hk2 hline harm hbase hfs hsw fun s₃ k₃ e₃ F₃ hD₃ => ?_)
  rcases re_ok O F₃ hcm with ⟨O', kg1, kg2⟩
  have hTg : TabAt c.w (acc ++ more) (c.re s₃.heap).g T := ⟨h97, DictOf.kp hD₃ fun o e => hid_get e hTL.symm⟩
  rcases F₃.ns with ⟨m, hm, hr⟩
  rcases hr tb (.val (.ref T)) (by simp) (by rw [hs, htb]; decide) with ⟨vT, hvT, rT⟩
  cases rT
  rcases hr nb (.lst (is.map D.int)) (by rw [List.lookup_cons, hne4]; exact hnb) (by rw [hs, hnbl]; decide) with ⟨vN, hvN, rN⟩
  have hNg : ∃ a, vN = .ref a ∧ IntsAt is (c.re s₃.heap).g a := by
    rcases Rd.lst_inv rN with ⟨_, _, _, _, hve0, h1, h2, h3, h4⟩
    first | subst hve0 | obtain ⟨⟩ := hve0
    case _ =>
      refine ⟨_, rfl, _, _, _, hid_get h1 fun q => ?_, h2, h3, Rd.ints h4 _ _⟩
      rcases hm with ⟨oL, es, ep, hL, hLd, _⟩
      rw [q, hL] at h1; cases h1; rw [hLd] at h3; cases h3
  obtain ⟨aN, rfl, hNg⟩ := hNg
  have F' : Fm (c.re s₃.heap) [(tb, .tab (TabAt c.w (acc ++ more))), (nb, .tab (IntsAt is))] s₃.heap := by
    refine ⟨⟨m, hm, fun x dx hx hxc => ?_⟩, fun x dx hx hxc => ?_, kg2, fun _ x hx => ?_⟩
    · rw [List.lookup_cons] at hx
      cases q : (x == tb) with
      | true => rw [q] at hx; cases hx; rw [eq_of_beq q]; exact ⟨_, hvT, .tab (fun _ _ _ k => TabAt.keeps k) hTg⟩
      | false =>
        rw [q, List.lookup_cons] at hx
        cases q2 : (x == nb) with
        | true => rw [q2] at hx; cases hx; rw [eq_of_beq q2]; exact ⟨_, hvN, .tab (fun _ _ _ k => IntsAt.keeps k) hNg⟩
        | false => rw [q2] at hx; simp at hx
    · have hxc : c.ns.lookup x = some .cell := hxc
      rw [hs] at hxc
      rw [List.lookup_cons] at hx
      cases q : (x == tb) with
      | true => rw [eq_of_beq q, htb] at hxc; cases hxc
      | false =>
        rw [q, List.lookup_cons] at hx
        cases q2 : (x == nb) with
        | true => rw [eq_of_beq q2, hnbl] at hxc; cases hxc
        | false => rw [q2] at hx; simp at hx
    · have hx : c.ns.lookup x = some .cell := hx
      rw [hs] at hx; exact absurd hx (hnc x)
  have kall : KpL c.env.locals s.heap s₃.heap := fun b o hL hc e => k₃ b o hL (neN e hT0) hc (kl₂ b o hL hc (x₁.keep _ _ e))
  have eall := x₁.same.trans (e₂.trans e₃)
  refine (hR (c.re s₃.heap) rfl hs rfl hcm rfl).go O' s₃ Q E F' ⟨fun _ _ h => (nomatch h), fun v s' d' hd' kl es kg rd => ?_, fun _ _ h => (nomatch h)⟩
  cases hd'
  exact hq.2.1 v s' _ rfl (kall.trans kl) (eall.trans es) (kg1.trans kg) (rd.any hd)
end
end Mine
end
end
section
--INV
set_option hygiene false in
local macro_rules | `(tactic| cases $x:ident) => `(tactic| first
  | (have some_inj_eq := Option.some.inj $x; clear $x; subst some_inj_eq)
  | exact (some_none $x).elim | exact (none_some $x).elim
  | (obtain ⟨_, rfl⟩ := Rd.int_inv $x) | (obtain ⟨_, rfl⟩ := Rd.str_inv $x) | (obtain rfl := Rd.val_inv $x) | (obtain rfl := Rd.bool_inv $x) | (obtain rfl := Rd.none_inv $x)
  | (obtain ⟨⟩ := $x:ident))
--/INV
section
open PySem PySem.W PySem.Calls PyProof.Rows
set_option Elab.async false
set_option maxRecDepth 100000
set_option linter.unusedVariables false
namespace Mine
/-- a walk of a, a + st, .., n turns -/
noncomputable
def Rgb (w : World) (A : Around) (a : Int) (n : Nat) (st : Int) (v : Value) (s : Shared) : Prop :=
  ∀ (Q E : Value → Shared → Prop), (∀ I h', Kp s.heap h' → s.heap.get? I = none → IsRangeIter h' I a n st → Q (.ref I) { s with heap := h' }) → wpAny (model P0 w) A (pyIter v) Q E s
structure RangeEv (c : Cx) (ρ : List (Str × D)) (e : Expr) (a : Int) (n : Nat) (st : Int) : Prop where
  go : c.Ok → ∀ (s : Shared) (Q E : Value → Shared → Prop), Fm c ρ s.heap →
    (∀ v s', Ext s s' → Rgb c.w c.A a n st v s' → Q v s') → wpAny c.M c.A (eval e c.env) Q E s
section
variable {c : Cx} {ρ : List (Str × D)} {o : Out}
theorem Rgb.of {w : World} {A : Around} {a b st : Int} {n : Nat} {t u v : Tok} {r : Addr} {s : Shared} (hr : IsRange s.heap r a b st t u v) (hn : Builtin.Range.rangeSize a b st = (n : Int)) (hs : Builtin.Range.small a b st = true) : Rgb w A a n st (.ref r) s := by
  intro Q E hQ
  refine wpAny_pyIter_range hr hs ?_
  rw [hn]
  exact hQ _ _ (fun b o e => Heap.get?_push_of_some _ e) (fresh_size _) (Heap.get?_push_size _ rfl)
theorem small_of {a b st : Int} {n : Nat} (hn : Builtin.Range.rangeSize a b st = (n : Int)) (ha : -1000000 ≤ a ∧ a ≤ 1000000) (hb : -1000000 ≤ b ∧ b ≤ 1000000) (hst : 0 < st ∧ st ≤ 1000000) (hnn : n ≤ 1000000) : Builtin.Range.small a b st = true := by
  unfold Builtin.Range.small
  rw [hn]
  have : st > 0 := hst.1
  simp only [Builtin.Range.rangeFitsLong, Bool.and_eq_true, Bool.or_eq_true, decide_eq_true_eq, beq_iff_eq, this, if_true]
  (first | lia | omega)
theorem RangeEv.one {func e : Expr} {pos : Pos} {m : Int} (hf : Ev c ρ func (some (.val (.type "range")))) (h : Ev c ρ e (some (.int m))) (h0 : 0 ≤ m) (h1 : m ≤ 1000000)
    (harm : autoParam (∀ env, eval (.Call func [e] [] pos) env = (do callWith pos (← eval func env) [] (backTo pos (starEach [e] env)) (backToKw pos (keywordEach [] env)))) aiRfl)
    (hplain : autoParam (∀ env, (backTo pos (starEach [e] env)).any (·.1) = false) aiRfl)
    (he : autoParam (∀ env, starEach [e] env = (false, eval e env) :: starEach [] env) aiRfl) : RangeEv c ρ (.Call func [e] [] pos) 0 m.toNat 1 := by
  refine ⟨fun O s Q E F hQ => ?_⟩
  rw [harm]
  refine wpAny_bind (hf.go1 O s _ _ F (fun v s₁ x rd => ?_))
  cases rd
  refine callWith_any (hplain _) keep_ty ?_
  refine (Evs.cons h Evs.nil he).go O s₁ pos _ E (F.ext x.keep) fun vs s₂ x₂ rs => ⟨O.sta.keeps ((F.ext x.keep).ext x₂.keep).keep, ?_⟩
  obtain ⟨v, rfl, r⟩ := rs.one
  obtain ⟨t, rfl⟩ := Rd.int_inv r
  case _ =>
    refine call_range_1 ?_
    have hn : Builtin.Range.rangeSize 0 m 1 = (m.toNat : Int) := by
      unfold Builtin.Range.rangeSize
      rw [if_pos (by decide)]
      split <;> (first | lia | omega)
    exact hQ _ _ ((x.trans x₂).trans ⟨fun b o e => Heap.get?_push_of_some _ e, _, _, rfl⟩) (Rgb.of (IsRange.new s₂.heap 0 m 1 s₂.toks t (s₂.toks + 1)) hn (small_of hn (by (first | lia | omega)) (by (first | lia | omega)) (by (first | lia | omega)) (by (first | lia | omega))))
theorem RangeEv.three {func e1 e2 e3 : Expr} {pos : Pos} {a b st : Int} {n : Nat} (hf : Ev c ρ func (some (.val (.type "range")))) (h1 : Ev c ρ e1 (some (.int a))) (h2 : Ev c ρ e2 (some (.int b))) (h3 : Ev c ρ e3 (some (.int st)))
    (hn : Builtin.Range.rangeSize a b st = (n : Int)) (ha : -1000000 ≤ a ∧ a ≤ 1000000) (hb : -1000000 ≤ b ∧ b ≤ 1000000) (hst : 0 < st ∧ st ≤ 1000000) (hnn : n ≤ 1000000)
    (harm : autoParam (∀ env, eval (.Call func [e1, e2, e3] [] pos) env = (do callWith pos (← eval func env) [] (backTo pos (starEach [e1, e2, e3] env)) (backToKw pos (keywordEach [] env)))) aiRfl)
    (hplain : autoParam (∀ env, (backTo pos (starEach [e1, e2, e3] env)).any (·.1) = false) aiRfl)
    (he1 : autoParam (∀ env, starEach [e1, e2, e3] env = (false, eval e1 env) :: starEach [e2, e3] env) aiRfl)
    (he2 : autoParam (∀ env, starEach [e2, e3] env = (false, eval e2 env) :: starEach [e3] env) aiRfl)
    (he3 : autoParam (∀ env, starEach [e3] env = (false, eval e3 env) :: starEach [] env) aiRfl) : RangeEv c ρ (.Call func [e1, e2, e3] [] pos) a n st := by
  refine ⟨fun O s Q E F hQ => ?_⟩
  rw [harm]
  refine wpAny_bind (hf.go1 O s _ _ F (fun v s₁ x rd => ?_))
  cases rd
  refine callWith_any (hplain _) keep_ty ?_
  refine (Evs.cons h1 (Evs.cons h2 (Evs.cons h3 Evs.nil he3) he2) he1).go O s₁ pos _ E (F.ext x.keep) fun vs s₂ x₂ rs => ⟨O.sta.keeps ((F.ext x.keep).ext x₂.keep).keep, ?_⟩
  cases rs with
  | cons r1 rs =>
    refine Classical.byContradiction fun hGoal0 => ?_
    obtain ⟨v2, v3, rfl, r2, r3⟩ := rs.two
    refine hGoal0 ?_
    clear hGoal0
    cases r1; cases r2; cases r3
    refine call_range_3 (by (first | lia | omega)) ?_ (.inl (PyProof.noPylong_small (by (first | lia | omega))))
    exact hQ _ _ ((x.trans x₂).trans ⟨fun b o e => Heap.get?_push_of_some _ e, _, _, rfl⟩) (Rgb.of (IsRange.new s₂.heap a b st _ _ _) hn (small_of hn ha hb hst hnn))
theorem rng_step {h : Heap} {I : Addr} {a st : Int} {i n : Nat} (r : IsRangeIter h I (a + (i : Int) * st + st) ((n : Int) - i - 1) st) : IsRangeIter h I (a + ((i + 1 : Nat) : Int) * st) ((n : Int) - ((i + 1 : Nat) : Int)) st := by
  have e1 : a + ((i + 1 : Nat) : Int) * st = a + (i : Int) * st + st := by rw [Int.natCast_add, Int.add_mul, Int.add_assoc]; exact congrArg (fun z => a + (_ + z)) (Int.one_mul st)
  have e2 : (n : Int) - ((i + 1 : Nat) : Int) = (n : Int) - i - 1 := by rw [Int.sub_sub]; rfl
  rw [e1, e2]
  exact r
theorem rng_lt {i n : Nat} (h : i < n) : 0 < (n : Int) - i := Int.sub_pos.mpr (Int.ofNat_lt.mpr h)
inductive ForRInv (c : Cx) (ρf : Nat → List (Str × D)) (s₁ : Shared) (I : Addr) (a st : Int) (n k : Nat) (s' : Shared) : Prop
  | mk (i : Nat) (e : k = n + 1 - i) (hi : i ≤ n) (it : IsRangeIter s'.heap I (a + (i : Int) * st) ((n : Int) - i) st) (F : Fm c (ρf i) s'.heap) (kp : KpL c.env.locals s₁.heap s'.heap) (sm : Same s₁ s')
/-- for x in a range -/
theorem Exs.forR {x : Str} {it : Expr} {body rest : List Stmt} {xp pos : Pos} {a st : Int} {n : Nat} {ns : List (Str × NameKind)} (ρf : Nat → List (Str × D)) (hi : RangeEv c ρ it a n st) (hns : c.ns = ns) (hk : ns.lookup x = some .local)
    (hs : Sub ρ (ρf 0))
    (hB : ∀ i : Nat, i < n → ∃ ρ', Exs c ((x, .int (a + (i : Int) * st)) :: ρf i) body (.next ρ') ∧ Sub ρ' (ρf (i + 1)))
    (hR : Exs c (ρf n) rest o) (hfs : autoParam (∀ env v, foldedSetIterable it env v = pure v) aiRfl) : Exs c ρ (.For (.Name x xp) it body [] pos :: rest) o := by
  refine ⟨?_⟩
  intro O s Q E F hq
  refine wpAny_execs_cons (wpAny_For (hi.go O s _ _ F fun v s₁ x₁ rg => ?_) (hfs _))
  have F₁ := F.ext x₁.keep
  refine rg _ _ fun I h₁ kp hI0 hit => ?_
  have hgI : c.g.get? I = Option.none := Kp.none F₁.keep hI0
  have hLI : c.env.locals ≠ I := F₁.neL hI0
  refine codeAny_forLoop (ForRInv c ρf s₁ I a st n) ?_ (n + 1)
    ⟨0, rfl, Nat.zero_le _, by simpa using hit, (F₁.ext kp).sub hs, KpL.of kp, ⟨_, _, rfl⟩⟩
  intro k s₂ hri0
  refine Classical.byContradiction fun hGoal0 => ?_
  obtain ⟨i, rfl, hile, hit₂, F₂, k₂, e₂⟩ := hri0
  refine hGoal0 ?_
  clear hGoal0
  by_cases hlt : i < n
  · refine wpAny_pyNext_range_item hit₂ (rng_lt hlt) fun h' hit' hsb => ?_
    have F₃ := F₂.sameBut (c := c) hit₂ rfl hgI hsb.extBut
    refine assign_name_ok (s := { s₂ with heap := h', toks := s₂.toks + 1 }) O F₃ (.int (a + (i : Int) * st) _) (hns ▸ hk) fun s₄ k₄ e₄ F₄ => ?_
    obtain ⟨ρ', hb, hsub⟩ := hB i hlt
    refine hb.go O s₄ _ _ F₄ ⟨fun ρ'' s₅ hq₅ k₅ e₅ F₅ => ?_, fun _ _ _ hq₅ => (nomatch hq₅), fun _ _ hq₅ => (nomatch hq₅)⟩
    cases hq₅
    have k45 := k₄.trans k₅
    refine ⟨n + 1 - (i + 1), ctr hlt, i + 1, rfl, hlt, ?_, F₅.sub hsub, ?_, e₂.trans ((Same.mk' (s := s₂) (h := h')).trans (e₄.trans e₅))⟩
    · exact rng_step (k45 _ _ (Ne.symm hLI) (fun v q => by cases q) hit')
    · intro b o hb hc e
      exact k45 _ _ hb hc (hsb.extBut b o (neN e hI0) (k₂ b o hb hc e))
  · have hin' : i = n := Nat.le_antisymm hile (Nat.not_lt.mp hlt)
    subst hin'
    refine wpAny_pyNext_range_end O.handled hit₂ (Int.le_of_eq (Int.sub_self _)) fun h' he => ?_
    refine wpAny_execs_nil ?_
    have kk : KpL c.env.locals s.heap h' := fun b o hb hc e => he b o (fun q => by
      have h1 := x₁.keep _ _ e
      rw [q, hI0] at h1; cases h1) (k₂ b o hb hc (x₁.keep _ _ e))
    exact hR.go O _ Q E (F₂.sameBut (c := c) hit₂ rfl hgI he) (hq.mono kk (x₁.same.trans (e₂.trans ⟨_, _, rfl⟩)))
end
end Mine
end
section
open PySem PySem.W PySem.Calls PyProof.Rows
set_option Elab.async false
set_option maxRecDepth 100000
set_option linter.unusedVariables false
namespace Mine
theorem wp_execs_app {M : Model} {Γ : Ctx} {env : Env} {Q : Flow → Pos → Shared → Prop} {E : Value → Pos → Shared → Prop} : ∀ {a b : List Stmt} {p : Pos} {s : Shared},
    Sem.wp M Γ (execs a env) (fun f p' s' => Sem.wp M Γ (match f with | .next => execs b env | f => pure f) Q E p' s') E p s → Sem.wp M Γ (execs (a ++ b) env) Q E p s
  | [], b, p, s, h => h
  | st :: r, b, p, s, h => by
    rw [List.cons_append, execs_cons, Sem.wp_bind']
    rw [execs_cons, Sem.wp_bind'] at h
    refine Sem.wp_mono M Γ _ (fun f p' s' h' => ?_) (fun _ _ _ h' => h') _ _ h
    cases f with
    | next => exact wp_execs_app h'
    | _ => exact h'
theorem wpAny_execs_app {M : Model} {A : Around} {env : Env} {Q : Flow → Shared → Prop} {E : Value → Shared → Prop} {a b : List Stmt} {s : Shared}
    (h : wpAny M A (execs a env) (fun f s' => match f with | .next => wpAny M A (execs b env) Q E s' | f => Q f s') E s) : wpAny M A (execs (a ++ b) env) Q E s := fun Γ p hΓ => by
  refine wp_execs_app (Sem.wp_mono M Γ _ (fun f p' s' h' => ?_) (fun _ _ _ h' => h') _ _ (h Γ p hΓ))
  cases f with
  | next => exact h' Γ p' hΓ
  | _ => exact h'
section
variable {c : Cx} {ρ : List (Str × D)} {o : Out}
theorem Fm.hide {h : Heap} {A : Addr} (F : Fm c ρ h) (hA : ∀ o, h.get? A = some o → o.cls = .type "list") (hn : ∀ p ∈ ρ, p.2.noLst = true) (hg : c.g.get? A = none) (hL : c.env.locals ≠ A) (hnc : ∀ x, c.ns.lookup x ≠ some .cell) : Fm c ρ (hid A h) := by
  have hl : ∀ o, h.get? A = some o → o.cls ≠ .type "tuple" := fun o e q => by rw [hA o e] at q; exact absurd q (by decide)
  have mem : ∀ x d, ρ.lookup x = some d → d.noLst = true := by
    intro x d e
    have : ∀ l : List (Str × D), (∀ p ∈ l, p.2.noLst = true) → l.lookup x = some d → d.noLst = true := by
      intro l
      induction l with
      | nil => intro _ h; simp at h
      | cons p l ih =>
        intro hp h
        rw [List.lookup_cons] at h
        split at h
        · cases h; exact hp p (.head _)
        · exact ih (fun q hq => hp q (.tail _ hq)) h
    exact this ρ hn e
  obtain ⟨m, hm, hr⟩ := F.ns
  refine ⟨⟨m, ?_, fun x d hx hc => ?_⟩, fun x d hx hc => absurd hc (hnc x), fun b o e => hid_get (F.keep b o e) (neN e hg), fun _ x hx => absurd hx (hnc x)⟩
  · obtain ⟨oL, es, ep, h1, r⟩ := hm
    exact ⟨oL, es, ep, hid_get h1 hL, r⟩
  · obtain ⟨v, h1, h2⟩ := hr x d hx hc
    exact ⟨v, h1, h2.hid hl (mem x d hx)⟩
theorem Fm.unhide {h : Heap} {A : Addr} (F : Fm c ρ (hid A h)) : Fm c ρ h := F.ext fun b o e => (of_hid e).1
inductive BuildInv (c : Cx) (ρ : List (Str × D)) (x : Str) (fD : Nat → D) (s : Shared) (A I : Addr) (a st : Int) (n k : Nat) (s' : Shared) : Prop
  | mk (i : Nat) (ys : Array Value) (e : k = n + 1 - i) (hi : i ≤ n) (sz : ys.size = i) (pl : PlainL s'.heap A ys) (R : RdAll c.g (hid A s'.heap) ys.toList ((List.range i).map fD)) (it : IsRangeIter s'.heap I (a + (i : Int) * st) ((n : Int) - i) st)
    (F : Fm c ((x, .val (.ref A)) :: ρ) (hid A s'.heap)) (kp : ∀ b o, b ≠ c.env.locals → b ≠ A → (∀ v, o.data ≠ .cell v) → s.heap.get? b = some o → s'.heap.get? b = some o) (sm : Same s s')
set_option maxHeartbeats 1000000 in
/-- x = []; for k in range: ..; x.append(..) -/
theorem Exs.build {x k : Str} {it elt : Expr} {pre rest : List Stmt} {xp lp sp kp p1 p2 p3 p4 fp : Pos} {a st : Int} {n : Nat} {ns : List (Str × NameKind)} (fD : Nat → D) (hs : c.ns = ns) (hnc : ∀ x, ns.lookup x ≠ some .cell)
    (hx : ns.lookup x = some .local) (hk : ns.lookup k = some .local) (hxk : (x == k) = false) (hbx : (x == ("__debug__" : Str)) = false) (hρx : ρ.lookup x = none) (hρk : ρ.lookup k = none) (hρn : ∀ p ∈ ρ, p.2.noLst = true) (hn : n ≤ 1000)
    (hi : ∀ A, RangeEv c ((x, .val (.ref A)) :: ρ) it a n st)
    (hB : ∀ (A : Addr) (i : Nat), i < n → ∃ ρ', Exs c ((k, .int (a + (i : Int) * st)) :: (x, .val (.ref A)) :: ρ) pre (.next ρ') ∧ (∀ p ∈ ρ', p.2.noLst = true) ∧ Sub ρ' ((x, .val (.ref A)) :: ρ) ∧ EvX c ρ' elt (fD i))
    (hR : Exs c ((x, .lst ((List.range n).map fD)) :: ρ) rest o) (hline : (p2.endLine == p3.line) = true)
    (hw : autoParam (∀ env, swapsWith (.List [] lp) (some (.Name x xp)) sp.line env = pure false) aiRfl)
    (hfs : autoParam (∀ env v, foldedSetIterable it env v = pure v) aiRfl)
    (hbase : autoParam (∀ env, attributeBase (.Name x p1) "append" env (eval (.Name x p1) env) = eval (.Name x p1) env) aiRfl)
    (hfew : autoParam (∀ env, ((backTo p3 (starEach [elt] env)).all (fun x => !x.1) && (backToKw p3 (keywordEach [] env)).all (fun x => x.1.isSome)
      && decide (([elt] : List Expr).length + ([] : List Keyword).length + (if ([] : List Keyword).isEmpty then 0 else 1) < 30)) = true) aiRfl)
    (htrees : autoParam (∀ env, backTo p3 (starEach [elt] env) = [(false, eval elt env)]) aiRfl)
    (hsw : autoParam (∀ env, swapsWith (.Call (.Attribute (.Name x p1) "append" p2) [elt] [] p3) none p4.line env = pure false) aiRfl) :
    Exs c ρ (.Assign [.Name x xp] (.List [] lp) sp :: .For (.Name k kp) it (pre ++ [.Expr (.Call (.Attribute (.Name x p1) "append" p2) [elt] [] p3) p4]) [] fp :: rest) o := by
  refine ⟨fun O s Q E F hq => ?_⟩
  have hint : interactive c.env = false := by unfold interactive; rw [O.kind]; rfl
  refine wpAny_execs_cons (wpAny_Assign_Name ?_ (hw _))
  refine List_ (Evs.nil.go O s lp _ E F fun vs s₁ x₁ rs => ?_)
  cases rs
  have F₁ := F.ext x₁.keep
  refine wpAny_newObj_type ?_ (by show ([] : List Value).toArray.size ≤ sizeLine; rw [sizeLine_eq]; simp)
  generalize hA : s₁.heap.objs.size = A
  have hA0 : s₁.heap.get? A = none := by rw [← hA]; exact fresh_size _
  have hnewA : (s₁.heap.push { cls := .type "list", data := .seq ([] : List Value).toArray }).get? A = some { cls := .type "list", data := .seq ([] : List Value).toArray } := by rw [← hA]; exact Heap.get?_push_size _ rfl
  have kpA : Kp s₁.heap (s₁.heap.push { cls := .type "list", data := .seq ([] : List Value).toArray }) := fun b o e => Heap.get?_push_of_some _ e
  generalize s₁.heap.push { cls := .type "list", data := .seq ([] : List Value).toArray } = H₁ at hnewA kpA ⊢
  have hgA : c.g.get? A = none := Kp.none F₁.keep hA0
  have hLA : c.env.locals ≠ A := F₁.neL hA0
  have hsA : s.heap.get? A = none := Kp.none x₁.keep hA0
  have hnc' : ∀ x, c.ns.lookup x ≠ some .cell := fun x => by rw [hs]; exact hnc x
  refine bindName_ok (s := { s₁ with heap := H₁ }) (d := .val (.ref A)) O (F₁.ext kpA) (.val _) (hs ▸ hx) fun s₂ kl₂ e₂ F₂ => ?_
  have hA₂ : PlainL s₂.heap A #[] := ⟨_, _, kl₂ _ _ hLA.symm (fun v q => by cases q) hnewA, rfl, rfl, rfl⟩
  have hclsA : ∀ {h : Heap} {ys}, PlainL h A ys → ∀ o, h.get? A = some o → o.cls = .type "list" := fun hp o e => by
    obtain ⟨o', n', e', hc', _⟩ := hp
    rw [e] at e'; cases e'; exact hc'
  have hρ' : ∀ p ∈ ((x, D.val (.ref A)) :: ρ), p.2.noLst = true := fun p hp => by
    obtain rfl | hp := List.mem_cons.mp hp
    · rfl
    · exact hρn p hp
  have F₂h : Fm c ((x, .val (.ref A)) :: ρ) (hid A s₂.heap) := F₂.hide (hclsA hA₂) hρ' hgA hLA hnc'
  have k₂ : ∀ b o, b ≠ c.env.locals → b ≠ A → (∀ v, o.data ≠ .cell v) → s.heap.get? b = some o → s₂.heap.get? b = some o := fun b o hL _ hc e => kl₂ b o hL hc (kpA _ _ (x₁.keep _ _ e))
  have es₂ : Same s s₂ := x₁.same.trans ((Same.mk' (s := s₁) (h := H₁)).trans e₂)
  refine wpAny_execs_cons (wpAny_For ((hi A).go O s₂ _ _ F₂ fun v s₃ x₃ rg => ?_) (hfs _))
  have F₃ := F₂.ext x₃.keep
  refine rg _ _ fun I H₄ kp₄ hI0 hit => ?_
  have hgI : c.g.get? I = none := Kp.none F₃.keep hI0
  have hLI : c.env.locals ≠ I := F₃.neL hI0
  have hAI : A ≠ I := by
    obtain ⟨o', n', e', _⟩ := hA₂
    exact neN (x₃.keep _ _ e') hI0
  have hsI : ∀ b o, s.heap.get? b = some o → b ≠ A → b ≠ c.env.locals → (∀ v, o.data ≠ .cell v) → b ≠ I := fun b o e h1 h2 h3 => neN (x₃.keep _ _ (k₂ b o h2 h1 h3 e)) hI0
  have khid : ∀ {h h' : Heap}, Kp h h' → Kp (hid A h) (hid A h') := fun k b o e => hid_get (k _ _ (of_hid e).1) (of_hid e).2
  refine codeAny_forLoop (BuildInv c ρ x fD s A I a st n) ?_ (n + 1)
    ⟨0, #[], rfl, Nat.zero_le _, rfl, hA₂.keeps (fun b o e => kp₄ _ _ (x₃.keep _ _ e)), .nil, by simpa using hit, F₂h.ext (khid (x₃.keep.trans kp₄)), fun b o h1 h2 h3 e => kp₄ _ _ (x₃.keep _ _ (k₂ b o h1 h2 h3 e)), es₂.trans (x₃.same.trans ⟨_, _, rfl⟩)⟩
  intro kk s₅ hri0
  refine Classical.byContradiction fun hGoal0 => ?_
  obtain ⟨i, ys, rfl, hile, hys, hA₅, hR₅, hit₅, F₅, k₅, e₅⟩ := hri0
  refine hGoal0 ?_
  clear hGoal0
  have hidI : ∀ {h h' : Heap}, (∀ b o, b ≠ I → h.get? b = some o → h'.get? b = some o) → ∀ b o, b ≠ I → (hid A h).get? b = some o → (hid A h').get? b = some o := fun k b o hb e => hid_get (k _ _ hb (of_hid e).1) (of_hid e).2
  have seqI : ∀ {h h' : Heap} {xx ll ss : Int}, IsRangeIter h I xx ll ss → (∀ b o, b ≠ I → h.get? b = some o → h'.get? b = some o) → ∀ b o, (hid A h).get? b = some o → (∃ vs n, o.data = .seq vs n) → (hid A h').get? b = some o := fun hq k b o e ⟨vs, nn, hd⟩ =>
    hidI k b o (fun q => by have := (of_hid e).1; rw [q, hq] at this; cases this; cases hd) e
  by_cases hlt : i < n
  · refine wpAny_pyNext_range_item hit₅ (rng_lt hlt) fun h₆ hit₆ hsb₆ => ?_
    have F₆ : Fm c ((x, .val (.ref A)) :: ρ) (hid A h₆) := F₅.sameBut (c := c) (hid_get hit₅ hAI.symm) rfl hgI (hidI hsb₆.extBut)
    have hA₆ : PlainL h₆ A ys := hA₅.extBut hsb₆.extBut hAI
    have hR₆ := RdAll.mono (.refl _) (seqI hit₅ hsb₆.extBut) hR₅
    refine assign_name_ok (s := { s₅ with heap := h₆, toks := s₅.toks + 1 }) O F₆.unhide (.int (a + (i : Int) * st) _) (hs ▸ hk) fun s₇ kl₇ e₇ F₇ => ?_
    refine Classical.byContradiction fun hGoal0 => ?_
    obtain ⟨ρ', hb, hnl, hsub, hev⟩ := hB A i hlt
    refine hGoal0 ?_
    clear hGoal0
    refine wpAny_execs_app (hb.go O s₇ _ _ F₇ ⟨fun ρ'' s₈ hq₈ kl₈ e₈ F₈ => ?_, fun _ _ _ hq₈ => (nomatch hq₈), fun _ _ hq₈ => (nomatch hq₈)⟩)
    cases hq₈
    have kl := kl₇.trans kl₈
    have hA₈ : PlainL s₈.heap A ys := by
      obtain ⟨o', n', e', hc', hd', hs'⟩ := hA₆
      exact ⟨o', n', kl _ _ hLA.symm (fun v q => by rw [hs'] at q; cases q) e', hc', hd', hs'⟩
    refine wpAny_execs_cons (wpAny_Expr (hi := hint) (hs := hsw _) ?_)
    refine wpAny_Call_append (hbase _) (hfew _) hline (htrees _) ?_
    have hxl : ρ'.lookup x = some (.val (.ref A)) := hsub.1
    refine (Ev.loc hs hx hxl hbx).go1 O s₈ _ _ F₈ (fun v₉ s₉ x₉ r₉ => ?_)
    cases r₉
    have F₉ := F₈.ext x₉.keep
    refine ⟨A, ys, rfl, hA₈.keeps x₉.keep, ?_⟩
    refine hev.go O s₉ _ _ F₉ fun y s₁ x₁₀ hy => ?_
    have hA₁₀ : PlainL s₁.heap A ys := (hA₈.keeps x₉.keep).keeps x₁₀.keep
    refine Classical.byContradiction fun hGoal0 => ?_
    obtain ⟨oa, na, hoa, hca, _⟩ := id (hA₈.keeps x₉.keep)
    refine hGoal0 ?_
    clear hGoal0
    have hy' := hy A oa hoa hca
    refine list_append_plainL hA₁₀ (fun h₁₁ hA₁₁ hs₁₁ => ?_) (by rw [hys, sizeLine_eq]; (first | lia | omega))
    have F₁₀ : Fm c ((x, .val (.ref A)) :: ρ) (hid A s₁.heap) := ((F₉.ext x₁₀.keep).hide (hclsA hA₁₀) hnl hgA hLA hnc').sub hsub
    have k₁₁ : Kp (hid A s₁.heap) (hid A h₁₁) := fun b o e => hid_get ((hs₁₁.2 b (of_hid e).2).trans (of_hid e).1) (of_hid e).2
    have k₆₁ : ∀ b o, b ≠ c.env.locals → b ≠ A → (∀ v, o.data ≠ .cell v) → h₆.get? b = some o → h₁₁.get? b = some o := fun b o h1 h2 h3 e => (hs₁₁.2 b h2).trans (x₁₀.keep _ _ (x₉.keep _ _ (kl _ _ h1 h3 e)))
    refine wpAny_execs_nil ?_
    refine ⟨n + 1 - (i + 1), ctr hlt, i + 1, ys.push y, rfl, hlt, by rw [Array.size_push, hys], hA₁₁, ?_, ?_, F₁₀.ext k₁₁, fun b o h1 h2 h3 e => k₆₁ b o h1 h2 h3 (hsb₆.extBut b o (hsI b o e h2 h1 h3) (k₅ b o h1 h2 h3 e)), ?_⟩
    · rw [List.range_succ, List.map_append, Array.toList_push]
      refine RdAll.snoc (RdAll.mono (.refl _) (fun b o e hq => ?_) hR₆) (hy'.keeps k₁₁)
      refine hid_get (k₆₁ b o (fun q => ?_) (of_hid e).2 (fun v q => by obtain ⟨vs, nn, hq⟩ := hq; rw [hq] at q; cases q) (of_hid e).1) (of_hid e).2
      refine Classical.byContradiction fun hGoal0 => ?_
      obtain ⟨m, ⟨oL, es, ep, hL, hLd, _⟩, _⟩ := F₆.ns
      refine hGoal0 ?_
      clear hGoal0
      rw [← q, e] at hL; cases hL
      obtain ⟨vs, nn, hq⟩ := hq
      rw [hLd] at hq; cases hq
    · exact rng_step (k₆₁ _ _ (Ne.symm hLI) hAI.symm (fun v q => by cases q) hit₆)
    · exact e₅.trans ((Same.mk' (s := s₅) (h := h₆)).trans (e₇.trans (e₈.trans (x₉.same.trans (x₁₀.same.trans ⟨_, _, rfl⟩)))))
  · have hin' : i = n := Nat.le_antisymm hile (Nat.not_lt.mp hlt)
    subst hin'
    refine wpAny_pyNext_range_end O.handled hit₅ (Int.le_of_eq (Int.sub_self _)) fun h₆ he => ?_
    refine wpAny_execs_nil ?_
    have F₆ : Fm c ((x, .val (.ref A)) :: ρ) (hid A h₆) := F₅.sameBut (c := c) (hid_get hit₅ hAI.symm) rfl hgI (hidI he)
    have hA₆ : PlainL h₆ A ys := hA₅.extBut he hAI
    have hR₆ := RdAll.mono (.refl _) (seqI hit₅ he) hR₅
    have rA : Rd c.g h₆ (.ref A) (.lst ((List.range i).map fD)) := by
      obtain ⟨o', n', e', hc', hd', hs'⟩ := hA₆
      exact .lst e' hc' hs' (RdAll.mono (.refl _) (fun b o e _ => (of_hid e).1) hR₆)
    have F₇ : Fm c ((x, .lst ((List.range i).map fD)) :: ρ) h₆ := by
      obtain ⟨m, hm, hr⟩ := F₆.unhide.ns
      refine ⟨⟨m, hm, fun y d hy hyc => ?_⟩, fun y d hy hyc => absurd hyc (hnc' y), F₆.unhide.keep, fun _ y hy => absurd hy (hnc' y)⟩
      rw [List.lookup_cons] at hy
      cases q : (y == x) with
      | true =>
        rw [q] at hy
        cases hy
        rw [eq_of_beq q]
        rcases hr x (.val (.ref A)) (by simp) (by rw [hs, hx]; decide) with ⟨v', h1, h2⟩
        cases h2
        exact ⟨_, h1, rA⟩
      | false =>
        rw [q] at hy
        exact hr y d (by rw [List.lookup_cons, q]; exact hy) hyc
    refine hR.go O _ Q E F₇ (hq.mono (fun b o hb hc e => ?_) (e₅.trans ⟨_, _, rfl⟩))
    have hbA : b ≠ A := (neN e hsA)
    exact he b o (hsI b o e hbA hb hc) (k₅ b o hb hbA hc e)
end
end Mine
end
end
section
--INV
set_option hygiene false in
local macro_rules | `(tactic| cases $x:ident) => `(tactic| first
  | (have some_inj_eq := Option.some.inj $x; clear $x; subst some_inj_eq)
  | exact (some_none $x).elim | exact (none_some $x).elim
  | (obtain ⟨_, rfl⟩ := Rd.int_inv $x) | (obtain ⟨_, rfl⟩ := Rd.str_inv $x) | (obtain rfl := Rd.val_inv $x) | (obtain rfl := Rd.bool_inv $x) | (obtain rfl := Rd.none_inv $x)
  | (obtain ⟨⟩ := $x:ident))
set_option hygiene false in
local macro_rules | `(tactic| rcases $e:term with $p:rcasesPatMed) => `(tactic| (refine Classical.byContradiction fun hGoal0 => ?_; obtain $p:rcasesPatMed := $e:term <;> (refine hGoal0 ?_; clear hGoal0)))
--/INV
section
open PySem PySem.W PySem.Calls PyProof.Rows
set_option Elab.async false
set_option maxRecDepth 100000
set_option linter.unusedVariables false
namespace Mine
mutual
/-- as data of the library -/
noncomputable
def D.py : D → PyData
  | .none => .none
  | .bool b => .bool b
  | .int i => .int i
  | .str x => .str x
  | .tup ds => .tuple (D.pyAll ds)
  | .lst ds => .list (D.pyAll ds)
  | .val _ => .none
  | .lim _ => .none
  | .tab _ => .none
noncomputable
def D.pyAll : List D → List PyData
  | [] => []
  | d :: ds => d.py :: D.pyAll ds
end
mutual
noncomputable
def D.data : D → Bool
  | .val _ => false
  | .lim _ => false
  | .tab _ => false
  | .tup ds => D.dataAll ds
  | .lst ds => D.dataAll ds
  | .str x => PyData.strOk x
  | _ => true
noncomputable
def D.dataAll : List D → Bool
  | [] => true
  | d :: ds => d.data && D.dataAll ds
end
theorem Rd.reads {g h : Heap} {v : Value} {d : D} (hd : d.data = true) (r : Rd g h v d) : ∃ as, Reads h v d.py as :=
  Rd.rec (motive_1 := fun v d _ => d.data = true → ∃ as, Reads h v d.py as) (motive_2 := fun vs ds _ => D.dataAll ds = true → ∃ as, ReadsAll h vs (D.pyAll ds) as)
    (fun _ => ⟨_, .none⟩) (fun b _ => ⟨_, .bool b⟩) (fun i t _ => ⟨_, .int i t⟩) (fun x t _ => ⟨_, .str x t⟩)
    (fun h1 h2 h3 _ i hd => let ⟨_, r⟩ := i hd; ⟨_, .tuple h1 h2 h3 r⟩) (fun h1 h2 h3 _ i hd => let ⟨_, r⟩ := i hd; ⟨_, .list h1 h2 h3 r⟩)
    (fun _ hd => Bool.noConfusion hd) (fun _ hd => Bool.noConfusion hd) (fun _ _ hd => Bool.noConfusion hd) (fun _ => ⟨_, .nil⟩)
    (fun _ _ a b hd => let ⟨_, r⟩ := a (Bool.and_eq_true_iff.mp hd).1; let ⟨_, q⟩ := b (Bool.and_eq_true_iff.mp hd).2; ⟨_, .cons r q⟩) r hd
theorem D.canLay (d : D) : d.data = true → d.py.canLay0 = true :=
  D.rec (motive_1 := fun d => d.data = true → d.py.canLay0 = true) (motive_2 := fun ds => D.dataAll ds = true → PyData.canLayAll0 (D.pyAll ds) = true)
    (fun _ => rfl) (fun _ _ => rfl) (fun _ _ => rfl) (fun _ h => h) (fun _ i h => i h) (fun _ i h => i h) (fun _ _ => rfl) (fun _ _ => rfl) (fun _ _ => rfl)
    (fun _ => rfl) (fun _ _ a b h => Bool.and_eq_true_iff.mpr ⟨a (Bool.and_eq_true_iff.mp h).1, b (Bool.and_eq_true_iff.mp h).2⟩) d
theorem D.canLayAll (ds : List D) (h : D.dataAll ds = true) : PyData.canLayAll0 (D.pyAll ds) = true := D.canLay (.tup ds) h
section
variable {w : World} {A : Around}
theorem cmp_neD {d : D} (hd : d.data = true) (hp : d.py.depth ≤ 64) (hu : A.units + 64 < cLine) : CmpOk w A .NotEq d d false := by
  refine ⟨fun g s va vb Q E st ra rb h => ?_⟩
  obtain ⟨as, r1⟩ := ra.reads hd
  obtain ⟨bs, r2⟩ := rb.reads hd
  have hs : SeqAt.shaped d.py = true := by unfold SeqAt.shaped; rw [D.canLay _ hd]; simpa using hp
  refine ne_dataH r1 r2 hs hs hu ?_
  rw [show PyData.eqv d.py d.py = true from SeqAt.eqv_refl _ (D.canLay d hd)]
  exact h _ (.refl _)
theorem pyAll_strs (ys : List Str) : D.pyAll (ys.map D.str) = ys.map PyData.str := by
  induction ys with
  | nil => rfl
  | cons y ys ih => simp [D.pyAll, D.py, ih]
theorem dataAll_strs (ys : List Str) (h : ys.all PyData.strOk = true) : D.dataAll (ys.map D.str) = true := by
  induction ys with
  | nil => rfl
  | cons y ys ih =>
    simp only [List.all_cons, Bool.and_eq_true] at h
    simp [D.dataAll, D.data, ih h.2, h.1]
theorem depth_strs (ys : List Str) : PyData.depthAll (ys.map PyData.str) = 0 := by
  induction ys with
  | nil => rfl
  | cons y ys ih => simp [PyData.depthAll, PyData.depth, ih]
theorem cmp_inT {x : Str} {ys : List Str} (hx : PyData.strOk x = true) (hys : ys.all PyData.strOk = true) (hu : A.units + 64 < cLine) : CmpOk w A .In (.str x) (.tup (ys.map D.str)) (ys.any fun y => y == x) := by
  refine ⟨fun g s va vb Q E st ra rb h => ?_⟩
  obtain ⟨as, r1⟩ := ra.reads (d := .str x) hx
  obtain ⟨bs, r2⟩ := rb.reads (d := .tup (ys.map D.str)) (by simpa [D.data] using dataAll_strs ys hys)
  have r2' : Reads s.heap vb (.tuple (ys.map PyData.str)) bs := by rw [← pyAll_strs]; exact r2
  refine SeqAt.in_tuple_reads r2' r1 (by rw [← pyAll_strs]; exact D.canLayAll _ (dataAll_strs ys hys)) hx (by rw [depth_strs, Nat.zero_min]; (first | lia | omega)) ?_
  have : ((ys.map PyData.str).any fun y => PyData.eqv y (D.str x).py) = ys.any fun y => y == x := by
    rw [List.any_map]; rfl
  rw [this]
  exact h _ (.refl _)
end
section
variable {c : Cx} {ρ : List (Str × D)}
/-- xs[-1] -/
theorem Ev.idxNeg {v i : Expr} {pos : Pos} {ds : List D} {k : Int} {d : D} (h1 : Ev c ρ v (some (.lst ds))) (h2 : Ev c ρ i (some (.int k))) (hlo : k < 0) (hhi : -(ds.length : Int) ≤ k) (hz : ds.length < 1000000) (hd : ds[(k + ds.length).toNat]? = some d)
    (hs : autoParam (∀ o u, subscripted i false (.ref o) (.int k u) = operate [.ref o, .int k u] (getItem (.ref o) (.int k u))) aiIwu) : Ev c ρ (.Subscript v i pos) (some d) := by
  refine ⟨?_⟩
  intro O s Q E F hQ _
  refine Subscript_ (h1.go1 O s _ _ F (fun v₁ s₁ x₁ rd₁ => ?_))
  refine h2.go1 O s₁ _ _ (F.ext x₁.keep) (fun v₂ s₂ x₂ rd₂ => ?_)
  cases rd₂
  rcases Rd.lst_inv (rd₁.keeps x₂.keep) with ⟨_, _, _, _, hve0, ho, hc, hd', hr⟩
  first | subst hve0 | obtain ⟨⟩ := hve0
  case _ =>
    rename_i ol vs nl
    rcases hr.get hd with ⟨x, hx, rx⟩
    have hl : s₂.heap.IsList _ _ := ⟨_, ho, hc, _, hd'⟩
    have hlen := hr.length
    rw [Array.length_toList] at hlen
    refine tail_any hl.typeIs slot_list_getitem.lookup (wpAny_getItem_list_neg (x := x) hl hlo (by rw [hlen]; exact hhi) (by (first | lia | omega)) (by rw [hlen]; simpa using hx) (hQ _ _ _ rfl (x₁.trans x₂) rx)) (hs _ _)
theorem RdAll.take {g h : Heap} {vs : List Value} {ds : List D} (n : Nat) (r : RdAll g h vs ds) : RdAll g h (vs.take n) (ds.take n) :=
  r.rec' (m := fun vs ds => ∀ n, RdAll g h (vs.take n) (ds.take n)) (fun n => by rw [List.take_nil, List.take_nil]; exact .nil) (fun {v d vs ds} a _ i n =>
    Nat.rec (motive := fun n => RdAll g h ((v :: vs).take n) ((d :: ds).take n)) .nil (fun n _ => .cons a (i n)) n) n
/-- xs[:n] of a list -/
theorem Ev.slL {v e : Expr} {p pos : Pos} {ds : List D} {n : Nat} (h1 : Ev c ρ v (some (.lst ds))) (h2 : Ev c ρ e (some (.int n))) (hz : ds.length ≤ sizeLine)
    (ht : ∀ o r, letTemporaryGo v o r = pure () := by intro _ _; rfl) : Ev c ρ (.Subscript v (.Slice Option.none (some e) Option.none p) pos) (some (.lst (ds.take n))) := by
  refine ⟨?_⟩
  intro O s Q E F hQ _
  refine wpAny_Subscript_Slice (T := "list") slot_list_getitem.lookup (h1.go1 O s _ _ F (fun v₁ s₁ x₁ r₁ => ?_)) ht
  rcases Rd.lst_inv r₁ with ⟨_, _, _, _, hve0, ho, hc, hd', hr⟩
  first | subst hve0 | obtain ⟨⟩ := hve0
  case _ =>
    rename_i a ol vs nl
    refine wpAny_Slice (wpAny_pure (h2.go1 O s₁ _ _ (F.ext x₁.keep) (fun v₂ s₂ x₂ r₂ => ?_)))
    cases r₂
    refine wpAny_pure ?_
    have kp : ∀ ob : Obj, Kp s₂.heap (s₂.heap.push ob) := fun ob b o e => Heap.get?_push_of_some _ e
    have hl : s₂.heap.IsList a vs := ⟨_, x₂.keep _ _ ho, hc, _, hd'⟩
    refine ⟨let ⟨o, h1, h2, _⟩ := hl; ⟨o, kp _ _ _ h1, h2⟩, ?_⟩
    have hlen := hr.length
    rw [Array.length_toList] at hlen
    refine wpAny_getItem_list_slice (hl.push _) (Heap.IsSliceOf.new ..) .none (.int _ _) .none (by simp) ?_ (by rw [hlen]; exact hz)
    refine hQ _ _ _ rfl ((x₁.trans x₂).trans ⟨fun b o e => Heap.get?_push_of_some _ (kp _ _ _ e), _, _, rfl⟩) (.lst (Heap.get?_push_size _ rfl) rfl rfl ?_)
    rw [slicePick_upto']
    refine (hr.take n).keeps fun b o e => Heap.get?_push_of_some _ (kp _ _ _ (x₂.keep _ _ e))
theorem list_copy_ok {ds : List D} (hdp : D.deepAll ds = true) (hz : ds.length ≤ 1000) : CallOk 0 (.type "list") [.lst ds] (some (.lst ds)) := by
  refine ⟨keep_ty, ?_⟩
  intro w A base outer s vs Q E hA hd hu hfr hfun hst hsta hrd hQ hE
  obtain ⟨v, rfl, r⟩ := hrd.one
  rcases Rd.lst_inv r with ⟨_, _, _, _, hve0, ho, hc, hd', hr⟩
  first | subst hve0 | obtain ⟨⟩ := hve0
  case _ =>
    have hlen := hr.length
    rw [Array.length_toList] at hlen
    refine call_list_seq _ (.inl rfl) ho hc hd' (fun h' c' k hn => ?_) (by rw [hlen, sizeLine_eq]; (first | lia | omega))
    exact hQ _ _ _ rfl ⟨k, _, _, rfl⟩ fun g => .lst hn rfl rfl (RdAll.any hdp (hr.keeps k))
theorem tuple_list_ok {ds : List D} (hdp : D.deepAll ds = true) (hz : ds.length ≤ 1000) : CallOk 0 (.type "tuple") [.lst ds] (some (.tup ds)) := by
  refine ⟨keep_ty, ?_⟩
  intro w A base outer s vs Q E hA hd hu hfr hfun hst hsta hrd hQ hE
  obtain ⟨v, rfl, r⟩ := hrd.one
  rcases Rd.lst_inv r with ⟨_, _, _, _, hve0, ho, hc, hd', hr⟩
  first | subst hve0 | obtain ⟨⟩ := hve0
  case _ =>
    have hlen := hr.length
    rw [Array.length_toList] at hlen
    refine call_tuple_list ⟨_, ho, hc, _, hd'⟩ (fun h' k => ?_) (by rw [hlen, sizeLine_eq]; (first | lia | omega))
    exact hQ _ _ _ rfl ⟨fun b o e => Heap.get?_push_of_some _ (k _ _ e), _, _, rfl⟩ fun g => .tup (Heap.get?_push_size _ rfl) rfl rfl (RdAll.any hdp (hr.keeps fun b o e => Heap.get?_push_of_some _ (k _ _ e)))
noncomputable
def D.isBool : D → Bool
  | .bool _ => true
  | _ => false
theorem isinst_bool_ok {d : D} (hd : d.data = true) : CallOk 0 (.builtin "isinstance") [d, .val (.type "bool")] (some (.bool d.isBool)) := by
  refine ⟨keep_bi, ?_⟩
  intro w A base outer s vs Q E hA hdp hu hfr hfun hst hsta hrd hQ hE
  rcases hrd.two with ⟨v, u, rfl, r, r2⟩
  cases r2
  cases r with
  | none => exact IsiPair.NoneType_bool (hQ _ _ _ rfl .tok fun _ => .bool _)
  | bool b => exact IsiPair.bool_bool (hQ _ _ _ rfl (.refl _) fun _ => .bool _)
  | int i t => exact IsiPair.int_bool (hQ _ _ _ rfl .tok fun _ => .bool _)
  | str x t => exact IsiPair.str_bool (hQ _ _ _ rfl .tok fun _ => .bool _)
  | tup h1 h2 h3 h4 => exact IsiPair.tuple_bool h1 h2 (hQ _ _ _ rfl .tok fun _ => .bool _)
  | lst h1 h2 h3 h4 => exact IsiPair.list_bool h1 h2 (hQ _ _ _ rfl .tok fun _ => .bool _)
  | val v => simp [D.data] at hd
  | lim x => simp [D.data] at hd
  | tab hp x => simp [D.data] at hd
end
end Mine
end
section
open PySem PySem.W PySem.Calls PyProof.Rows
set_option Elab.async false
set_option maxRecDepth 100000
set_option linter.unusedVariables false
namespace Mine
noncomputable
def outE (f : Nat → D → D) (src : List D) : List D := src.zipIdx.map fun p => f p.2 p.1
theorem outE_take {f : Nat → D → D} {src : List D} {i : Nat} {d : D} (h : src[i]? = some d) : outE f (src.take (i + 1)) = outE f (src.take i) ++ [f i d] := by
  have hi : i < src.length := (List.getElem?_eq_some_iff.mp h).1
  unfold outE
  rw [List.take_add_one, h]
  simp only [Option.toList_some]
  rw [List.zipIdx_append, List.map_append]
  simp [List.length_take, Nat.min_eq_left (Nat.le_of_lt hi)]
section
variable {c : Cx} {ρ : List (Str × D)}
set_option maxHeartbeats 2000000 in
theorem Ev.compEnum {elt itE func : Expr} {x y n : Str} {dn : D} {px py tp cp : Pos} {kk : Nat} {scope : Scope} {pos : Pos} {src : List D} {ns ns' : List (Str × NameKind)} {f : Nat → D → D}
    (hs : c.ns = ns) (hf : Ev c ρ func (some (.val (.type "enumerate")))) (hi : Ev c ρ itE (some (.lst src))) (hsd : D.deepAll src = true) (hsz : src.length ≤ 1000) (hk : scope.kind = .function) (hx : ns'.lookup x = some .local) (hy : ns'.lookup y = some .local) (hxs : scope.names.lookup x = some .local) (hys : scope.names.lookup y = some .local)
    (hcell : (scope.names.all fun y => y.2 != .cell) = true) (hnames : (scope.names.all fun y => y.2 != .local || scope.names.lookup y.1 == some .local) = true)
    (hns : (scope.names.map fun x => if (x.2 == NameKind.free && ns.lookup x.1 == some .cell) then (x.1, NameKind.cell) else (x.1, x.2)) = ns')
    (hclos : ∀ env, closureFor scope env = cellOf env n >>= fun a => pure [(n, a)])
    (hn : ρ.lookup n = some dn) (hn2 : ns.lookup n = some .cell) (hn3 : ns'.lookup n = some .cell) (hxy : (x == y) = false)
    (hE : ∀ c' : Cx, c'.n = c.n → c'.ns = ns' → ∀ (i : Nat) d, src[i]? = some d → EvX c' [(y, d), (x, .int (i : Int)), (n, dn)] elt (f i d))
    (hdp : ∀ i d, src[i]? = some d → (f i d).deep = true)
    (hfold : autoParam (∀ env v, foldedSetIterable (.Call func [itE] [] cp) env v = pure v) aiRfl)
    (harm : autoParam (∀ env, eval (.Call func [itE] [] cp) env = (do callWith cp (← eval func env) [] (backTo cp (starEach [itE] env)) (backToKw cp (keywordEach [] env)))) aiRfl)
    (hplain : autoParam (∀ env, (backTo cp (starEach [itE] env)).any (·.1) = false) aiRfl)
    (he : autoParam (∀ env, starEach [itE] env = (false, eval itE env) :: starEach [] env) aiRfl) :
    Ev c ρ (.ListComp elt [⟨.Tuple [.Name x px, .Name y py] kk tp, .Call func [itE] [] cp, [], 0⟩] scope pos) (some (.lst (outE f src))) := by
  have hnx : n ≠ x := (neL hn3 hx (fun z => nomatch z))
  have hny : n ≠ y := (neL hn3 hy (fun z => nomatch z))
  refine ⟨fun O s Q E F hQ _ => ?_⟩
  rw [eval_ListComp]
  rcases F.cl n dn hn (by rw [hs]; exact hn2) with ⟨a, vn, hac, hia, rdn⟩
  have hcl : closureFor scope c.env = pure [(n, a)] := by
    rw [hclos]
    show cellOf c.env n >>= _ = _
    have : cellOf c.env n = pure a := by unfold cellOf; rw [hac]
    rw [this]; rfl
  refine wpAny_comprehension_free (use := Option.none) rfl (hfold _) hcl hk (fun z hz hl => by
    have := List.all_eq_true.mp hnames z hz
    simp [hl] at this
    exact this) ?_
  show wpAny c.M c.A (eval (.Call func [itE] [] cp) c.env) _ _ _
  rw [harm]
  refine wpAny_bind (hf.go1 O s _ _ F (fun v s₁ x₁ rd => ?_))
  cases rd
  refine callWith_any (hplain _) keep_ty ?_
  refine (Evs.cons hi Evs.nil he).go O s₁ cp _ E (F.ext x₁.keep) fun vs s₂ x₂ rs => ⟨O.sta.keeps ((F.ext x₁.keep).ext x₂.keep).keep, ?_⟩
  obtain ⟨v, rfl, r⟩ := rs.one
  have F₂ := (F.ext x₁.keep).ext x₂.keep
  rcases Rd.lst_inv r with ⟨_, _, _, _, hve0, ho, hc, hd, hr⟩
  first | subst hve0 | obtain ⟨⟩ := hve0
  case _ =>
    rename_i l ol items nl
    have hl : s₂.heap.IsList l items := ⟨_, ho, hc, _, hd⟩
    have hlen := hr.length
    rw [Array.length_toList] at hlen
    refine call_enumerate_list hl fun h₂ hEn hIt hsz₂ k₂ => ?_
    refine wpAny_pyIter_enum hEn ?_
    have hlt : l < s₂.heap.objs.size := Heap.lt_size ho
    generalize hg : s₂.heap = g at *
    have kg1 : Kp s.heap g := hg ▸ x₁.keep.trans x₂.keep
    generalize hit : g.objs.size = it at *
    have W := WalksT.enumerate (prog := P0) (w := c.w) O.handled (it + 1) it l (Nat.succ_ne_self _) (Nat.ne_of_lt (Nat.lt_succ_of_lt hlt)) (Nat.ne_of_lt hlt) items
    have hst : (∃ old, IsEnum h₂ (it + 1) it ((0 : Nat) : Int) old) ∧ h₂.IsListIter it l 0 ∧ h₂.IsList l items := ⟨⟨_, hEn⟩, hIt, let ⟨o, a, b⟩ := hl; ⟨o, k₂ _ _ a, b⟩⟩
    have hwr : ∀ b ∈ [it + 1, it], g.get? b = Option.none := fun b hb => by
      refine Heap.get?_none_of_le ?_
      rw [hit]
      have hb : b = it + 1 ∨ b = it := by simpa using hb
      obtain hb | hb := hb
      · exact hb ▸ Nat.le_succ it
      · exact hb ▸ Nat.le_refl it
    have hfp : ∀ b ∈ [it + 1, it, l], b < h₂.objs.size := fun b hb => by
      rw [hsz₂]
      obtain rfl | hb := List.mem_cons.mp hb
      · exact Nat.lt_succ_self _
      · obtain rfl | hb := List.mem_cons.mp hb
        · exact Nat.lt_succ_of_lt (Nat.lt_succ_self _)
        · rw [List.mem_singleton.mp hb]; exact Nat.lt_trans hlt (Nat.lt_succ_of_lt (Nat.lt_succ_self _))
    have hwd : ∀ (i : Nat) (h : Heap) (b : Addr) (o : Obj), ((∃ old, IsEnum h (it + 1) it (i : Int) old) ∧ h.IsListIter it l i ∧ h.IsList l items) → b ∈ [it + 1, it] → h.get? b = some o → ∀ vs n, o.data ≠ .seq vs n := by
      rintro i h b o ⟨⟨old, h1⟩, ⟨o', h2, _, h3⟩, _⟩ hb e vs n hq
      obtain rfl | hb := List.mem_cons.mp hb
      · have h1 : h.get? (it + 1) = some _ := h1
        rw [h1] at e; cases e; cases hq
      · rw [List.mem_singleton.mp hb, h2] at e; cases e; rw [h3] at hq; cases hq
    have Fg : Fm c ρ g := F.ext kg1
    have k2 : Kp g h₂ := k₂
    refine wpAny_newObj_type (wpAny_newFunctionEnv (fun z hz => by have := List.all_eq_true.mp hcell z hz; simpa using this) (by intro y hy; simp at hy) (fun h₁ hns₁ hsb₁ => ?_) hk)
    dsimp only at hns₁ hsb₁ ⊢
    have CH := compHeap (g₀ := s.heap) (fp := [it + 1, it, l]) kg1 k2 hfp fun b o hb e => hsb₁.extBut b o hb (Heap.get?_push_of_some _ e)
    generalize (h₂.push { cls := .type "list", dict := Option.none, data := .seq ([] : List Value).toArray }).objs.size = C at CH hns₁ hsb₁ ⊢
    generalize h₂.objs.size = Da at CH ⊢
    clear hsb₁
    rcases CH with ⟨hDC, hDf, hCf, old, hgC, hgD, hsC, hacc⟩
    have hst₁ := W.frame 0 _ h₁ hst fun b _ o e => old b o e
    have O' : (c.inner scope [(n, a)] C g ns').Ok := inner_ok O F kg1 hs hk hns hgC
    have hkx : (c.inner scope [(n, a)] C g ns').env.kindOf x = some .local := lookup_relabel_local hxs
    have hky : (c.inner scope [(n, a)] C g ns').env.kindOf y = some .local := lookup_relabel_local hys
    have hfun : (c.inner scope [(n, a)] C g ns').env.scope.kind = .function := hk
    have hyx : (y == x) = false := beq_false_symm hxy
    have frame : ∀ (h : Heap) (m : Str → Option Value) (v u : Value) (d e : D), Kp g h → h.Ns C m → m x = some v → m y = some u → Rd g h v d → Rd g h u e → Fm (c.inner scope [(n, a)] C g ns') [(y, e), (x, d), (n, dn)] h := by
      intro h m v u d e kg hm hmx hmy rd re
      refine ⟨⟨m, hm, fun z d' hz hzc => ?_⟩, fun z d' hz hzc => ?_, kg, fun hc => (nomatch hc)⟩
      · rw [List.lookup_cons] at hz
        cases q : (z == y) with
        | true => rw [q] at hz; cases hz; rw [eq_of_beq q]; exact ⟨u, hmy, re⟩
        | false =>
          rw [q, List.lookup_cons] at hz
          cases q2 : (z == x) with
          | true => rw [q2] at hz; cases hz; rw [eq_of_beq q2]; exact ⟨v, hmx, rd⟩
          | false =>
            rw [q2, List.lookup_cons] at hz
            cases q3 : (z == n) with
            | true => rw [eq_of_beq q3] at hzc; exact absurd hn3 hzc
            | false => rw [q3] at hz; simp at hz
      · have hzc : ns'.lookup z = some .cell := hzc
        have z1 : (z == y) = false := beq_eq_false_iff_ne.mpr (neL hzc hy (fun z => nomatch z))
        have z2 : (z == x) = false := beq_eq_false_iff_ne.mpr (neL hzc hx (fun z => nomatch z))
        rw [List.lookup_cons, z1, List.lookup_cons, z2, List.lookup_cons] at hz
        cases q3 : (z == n) with
        | true =>
          rw [q3] at hz
          cases hz
          exact ⟨a, vn, by rw [eq_of_beq q3]; simp [Cx.inner, compEnvC], hia.keeps (kg1.trans kg), rdn.mono Fg.keep fun b o e _ => kg _ _ (kg1 _ _ e)⟩
        | false => rw [q3] at hz; simp at hz
    have loop : ∀ s₃ : Shared, s₃ = { s₂ with heap := h₁, toks := s₂.toks + ([] : List (Str × Value)).length } →
        codeAny c.M c.A (.compLoop (.ListComp elt [⟨.Tuple [.Name x px, .Name y py] kk tp, .Call func [itE] [] cp, [], 0⟩] scope pos) 0 (.ref (it + 1)) (.ref Da) (c.inner scope [(n, a)] C g ns').env) (compPost c.M c.A E Option.none Q (.ref Da) C) s₃ := by
      rintro s₃ rfl
      refine LCp.codeAny_compLoop_pair
        (CompInv s₂ src.length (fun i h' => (∃ old, IsEnum h' (it + 1) it (i : Int) old) ∧ h'.IsListIter it l i ∧ h'.IsList l items) Da C g h₁ [it + 1, it] fun i => outE f (src.take i)) ?_ (src.length + 1)
        ⟨h₁, _, _, #[], 0, rfl, Nat.zero_le _, rfl, hst₁, hacc, hns₁, by simpa [outE] using RdAll.nil, Nat.le_refl _, fun _ _ _ _ _ e => e⟩
      rintro k s' ⟨H, tk, m', ys, i, rfl, hi, rfl, hst', hacc', hn', hR, hys, hkp⟩
      have hCw : C ∉ [it + 1, it] := fun h => hCf (W.sub _ h)
      have hDw : Da ∉ [it + 1, it] := fun h => hDf (W.sub _ h)
      have kgH : Kp g H := fun b o e => hkp b o (neN e hgC) (fun q => some_none (e.symm.trans (hwr b q))) (neN e hgD) (old _ _ (k2 _ _ e))
      by_cases hlti : i < src.length
      · refine W.item i _ _ _ (by (first | lia | omega)) hst' fun T vals H₁ tk₁ hPv hTsz hT hMid hk₂ => ?_
        rcases hPv with ⟨tv, xv, hxv, rfl⟩
        have hTw : T ∉ [it + 1, it] := W.apart _ _ _ hMid
        refine W.go _ _ _ i T _ _ _ hMid fun H₂ hst₂ hk₂' => ?_
        obtain ⟨d, hd⟩ : ∃ d, src[i]? = some d := ⟨_, List.getElem?_eq_getElem hlti⟩
        rcases hr.get hd with ⟨v', hv', rv⟩
        rw [Array.getElem?_toList, hxv] at hv'
        cases hv'
        have hTup : IsTup H₂ T #[.int i tv, xv] := let ⟨o, h1, h2, n', h3⟩ := hT; ⟨o, hk₂' _ _ hTw h1, h2, n', h3⟩
        refine assign_Tuple_tuple (s := { s₂ with heap := H₂, toks := tk₁ }) O.handled hTup rfl rfl fun H₃ he₃ => ?_
        have k₂₃ : Kp H₂ H₃ := fun b o e => he₃ b o (Nat.ne_of_lt (Heap.lt_size e)) e
        have kH₃ : ∀ b o, b ∉ [it + 1, it] → H.get? b = some o → H₃.get? b = some o := fun b o hb e => k₂₃ _ _ (hk₂' _ _ hb (hk₂ _ _ hb e))
        refine assignInOrder_cons (wpAny_assign_Name (wpAny_storeName_local hkx (hn'.at' fun o e => kH₃ _ o hCw e) (fun H₄ hn₄ hs₄ => ?_) (by rw [hfun]; rfl)))
        refine assignInOrder_cons (wpAny_assign_Name (wpAny_storeName_local hky hn₄ (fun H₅ hn₅ hs₅ => assignInOrder_nil ?_) (by rw [hfun]; rfl)))
        have k₃₅ : ∀ b o, b ≠ C → H₃.get? b = some o → H₅.get? b = some o := fun b o hb e => hs₅.extBut b o hb (hs₄.extBut b o hb e)
        have up₅ : ∀ b o, b ≠ C → b ∉ [it + 1, it] → H.get? b = some o → H₅.get? b = some o := fun b o hbC hbw e => k₃₅ b o hbC (kH₃ b o hbw e)
        have kg₅ : Kp g H₅ := fun b o e => up₅ b o (neN e hgC) (fun q => some_none (e.symm.trans (hwr b q))) (kgH _ _ e)
        have F₅ := frame H₅ _ (.int i tv) xv (.int (i : Int)) d kg₅ hn₅ (by simp [show x ≠ y from fun q => by rw [q] at hxy; simp at hxy]) (by simp) (.int _ _) (Rd.any (by
          have : ∀ (L : List D) (j : Nat) (e : D), D.deepAll L = true → L[j]? = some e → e.deep = true := by
            intro L
            induction L with
            | nil => intro j e _ h; simp at h
            | cons b L ih =>
              intro j e hb h
              simp only [D.deepAll, Bool.and_eq_true] at hb
              cases j with
              | zero => simp at h; exact h ▸ hb.1
              | succ j => exact ih j e hb.2 (by simpa using h)
          exact this src i d hsd hd) (rv.keeps kg₅))
        have hst₅ := W.frame (i + 1) _ H₅ hst₂ fun b hb o e => k₃₅ b o (fun q => hCf (by have q : b = C := q; rw [← q]; exact hb)) (k₂₃ _ _ e)
        refine (hE (c.inner scope [(n, a)] C g ns') rfl rfl i d hd).go O' { s₂ with heap := H₅, toks := _ } _ _ F₅ fun yv s₄ x₄ hyv => ?_
        obtain ⟨H₆, tk₆, rfl⟩ := (Same.mk' (s := s₂) (h := H₅)).trans x₄.same
        have kp₆ : Kp H₅ H₆ := x₄.keep
        have hn₆ := hn₅.keeps kp₆
        rcases id hacc' with ⟨oa, hoa, hca, nna, hda⟩
        have hoa₅ : H₅.get? Da = some oa := up₅ _ _ hDC hDw hoa
        have hyv' := hyv Da oa hoa₅ hca
        have hacc₆ : H₆.IsList Da ys := ⟨oa, kp₆ _ _ hoa₅, hca, nna, hda⟩
        refine wpAny_list_append (s := { s₂ with heap := H₆, toks := tk₆ }) hacc₆ (fun H₇ hl₇ hs₇ => ?_) (by rw [sizeLine_eq]; (first | lia | omega))
        have k67 : ∀ b o, b ≠ Da → H₆.get? b = some o → H₇.get? b = some o := fun b o hb e => hs₇.extBut b o hb e
        have hseq : RdAll g (hid Da H₇) ys.toList (outE f (src.take i)) := by
          refine hR.mono (.refl _) fun b o e hq => ?_
          obtain ⟨e1, e2⟩ := of_hid e
          refine hid_get (k67 _ _ e2 (kp₆ _ _ (up₅ b o (fun q => ?_) (fun q => ?_) e1))) e2
          · rcases hn' with ⟨oC, es, ep, hoC, hdC, _⟩
            rw [q, hoC] at e1; cases e1
            rcases hq with ⟨ws, nn, hq⟩
            rw [hdC] at hq; cases hq
          · rcases hq with ⟨ws, nn, hq⟩
            exact hwd i H b o hst' q e1 ws nn hq
        refine ⟨src.length + 1 - (i + 1), ctr hlti, H₇, tk₆, _, ys.push yv, i + 1, rfl, hlti, rfl, ?_, hl₇, hn₆.sameBut hs₇ (Ne.symm hDC), ?_, by rw [Array.size_push]; exact Nat.succ_le_succ hys, fun b o h1 h2 h3 e => k67 b o h3 (kp₆ _ _ (up₅ _ _ h1 h2 (hkp b o h1 h2 h3 e)))⟩
        · exact W.frame (i + 1) _ H₇ hst₅ fun b hb o e => k67 b o (fun q => hDf (q ▸ hb)) (kp₆ b o e)
        · rw [outE_take hd, Array.toList_push]
          refine RdAll.snoc hseq ?_
          refine hyv'.mono (.refl _) fun b o e _ => ?_
          obtain ⟨e1, e2⟩ := of_hid e
          exact hid_get (k67 b o e2 e1) e2
      · have hin : i = src.length := Nat.le_antisymm hi (Nat.not_lt.mp hlti)
        subst hin
        rw [List.take_of_length_le (Nat.le_refl _)] at hR
        refine W.done _ _ _ (by rw [hlen]; exact hst') fun H₁ tk₁ hk₁ => ?_
        refine ⟨_, hn'.at' fun o e => hk₁ _ o hCw e, fun h' hs' => hQ _ _ _ rfl ⟨fun b o e => ?_, (x₁.same.trans x₂.same).trans (Same.mk' (s := s₂))⟩ ?_⟩
        · have e' := kg1 _ _ e
          exact hs'.extBut b o (neN e hsC) (hk₁ b o (fun q => some_none (e'.symm.trans (hwr b q))) (kgH _ _ e'))
        · rcases hacc' with ⟨oa, hoa, hca, nna, hda⟩
          have e1 : h'.get? Da = some oa := hs'.extBut _ _ hDC (hk₁ _ _ hDw hoa)
          refine .lst e1 hca hda (RdAll.any ?_ (hR.unhid (h' := h') fun b o hb e hq => ?_))
          · have : ∀ (L : List (D × Nat)), (∀ p ∈ L, (f p.2 p.1).deep = true) → D.deepAll (L.map fun p => f p.2 p.1) = true := by
              intro L
              induction L with
              | nil => intro _; rfl
              | cons p L ih =>
                intro h
                simp only [List.map_cons, D.deepAll, Bool.and_eq_true]
                exact ⟨h p (.head _), ih fun q hq => h q (.tail _ hq)⟩
            refine this _ fun p hp => ?_
            have := List.mem_zipIdx_iff_getElem?.mp hp
            exact hdp _ _ this
          · rcases hn' with ⟨oC, es, ep, hoC, hdC, _⟩
            rcases hq with ⟨ws, nn, hq⟩
            refine hs'.extBut _ _ (fun q => ?_) (hk₁ _ _ (fun q => hwd _ H b o hst' q e ws nn hq) e)
            rw [q, hoC] at e; cases e; rw [hdC] at hq; cases hq
    exact codeAny_compStart_list (loop _ rfl) (W.self 0 _ _ _ hst₁ (loop _ rfl))
end
end Mine
end
section
open PySem PySem.W PySem.Calls PyProof.Rows
set_option Elab.async false
set_option maxRecDepth 100000
set_option linter.unusedVariables false
namespace Mine
/-- the outcome of the asking tree -/
noncomputable
def kRun {α : Type} (lt : Nat → Nat → Bool) : KasT α → α
  | .ret a => a
  | .ask i j k => kRun lt (k (lt i j))
noncomputable
def kOk {α : Type} (n : Nat) : KasT α → Bool
  | .ret _ => true
  | .ask i j k => decide (i < n) && decide (j < n) && kOk n (k true) && kOk n (k false)
theorem kRun_wp {α : Type} {cmp : Nat → Nat → (Bool → Shared → Prop) → Shared → Prop} {lt : Nat → Nat → Bool} {n : Nat} {P : Shared → Prop} (hc : ∀ i j C s, i < n → j < n → P s → (∀ s', P s' → C (lt i j) s') → cmp i j C s) {Q : α → Shared → Prop} :
    ∀ (t : KasT α) (s : Shared), kOk n t = true → P s → (∀ s', P s' → Q (kRun lt t) s') → t.kasWp cmp Q s
  | .ret a, s, _, hp, hq => hq s hp
  | .ask i j k, s, ho, hp, hq => by
    simp only [kOk, Bool.and_eq_true, decide_eq_true_eq] at ho
    refine hc i j _ s ho.1.1.1 ho.1.1.2 hp fun s' hp' => ?_
    refine kRun_wp hc _ s' ?_ hp' hq
    cases lt i j
    · exact ho.2
    · exact ho.1.2
theorem kRun_congr {α : Type} {lt lt' : Nat → Nat → Bool} {n : Nat} (h : ∀ i j, i < n → j < n → lt i j = lt' i j) : ∀ (t : KasT α), kOk n t = true → kRun lt t = kRun lt' t
  | .ret _, _ => rfl
  | .ask i j k, ho => by
    simp only [kOk, Bool.and_eq_true, decide_eq_true_eq] at ho
    rw [kRun, kRun, h i j ho.1.1.1 ho.1.1.2]
    refine kRun_congr h _ ?_
    cases lt' i j
    · exact ho.2
    · exact ho.1.2
noncomputable
def lt6 (b01 b02 b03 b12 b13 b23 : Bool) (i j : Nat) : Bool :=
  match i, j with
  | 0, 1 => b01 | 1, 0 => !b01 | 0, 2 => b02 | 2, 0 => !b02 | 0, 3 => b03 | 3, 0 => !b03 | 1, 2 => b12 | 2, 1 => !b12 | 1, 3 => b13 | 3, 1 => !b13 | 2, 3 => b23 | 3, 2 => !b23 | _, _ => false
noncomputable
def trB (n : Nat) (lt : Nat → Nat → Bool) : Bool := (List.range n).all fun i => (List.range n).all fun j => (List.range n).all fun k => !(lt i j && lt j k) || lt i k
noncomputable
def goodB (n : Nat) (lt : Nat → Nat → Bool) (p : Array Nat) : Bool :=
  p.size == n && p.all (fun i => decide (i < n)) && (List.range n).all fun i => (i == p.getD (n - 1) 0 || lt i (p.getD (n - 1) 0)) && (i == p.getD 0 0 || lt (p.getD 0 0) i)
theorem ok234 : kOk 2 (kas_sort 2) = true ∧ kOk 3 (kas_sort 3) = true ∧ kOk 4 (kas_sort 4) = true := by decide +kernel
theorem good234 : ∀ b01 b02 b03 b12 b13 b23 : Bool, (!(trB 4 (lt6 b01 b02 b03 b12 b13 b23)) || goodB 4 (lt6 b01 b02 b03 b12 b13 b23) (kRun (lt6 b01 b02 b03 b12 b13 b23) (kas_sort 4))) = true ∧
    (!(trB 3 (lt6 b01 b02 b03 b12 b13 b23)) || goodB 3 (lt6 b01 b02 b03 b12 b13 b23) (kRun (lt6 b01 b02 b03 b12 b13 b23) (kas_sort 3))) = true ∧
    (!(trB 2 (lt6 b01 b02 b03 b12 b13 b23)) || goodB 2 (lt6 b01 b02 b03 b12 b13 b23) (kRun (lt6 b01 b02 b03 b12 b13 b23) (kas_sort 2))) = true := by decide +kernel
theorem sort_good {n : Nat} (h2 : 2 ≤ n) (h4 : n ≤ 4) (lt : Nat → Nat → Bool) (hanti : ∀ i j, i ≠ j → lt j i = !lt i j) (hirr : ∀ i, lt i i = false) (htr : ∀ i j k, lt i j = true → lt j k = true → lt i k = true) :
    kOk n (kas_sort n) = true ∧ goodB n lt (kRun lt (kas_sort n)) = true := by
  rcases ok234 with ⟨o2, o3, o4⟩
  rcases good234 (lt 0 1) (lt 0 2) (lt 0 3) (lt 1 2) (lt 1 3) (lt 2 3) with ⟨g4, g3, g2⟩
  have e : ∀ i j, i < 4 → j < 4 → lt i j = lt6 (lt 0 1) (lt 0 2) (lt 0 3) (lt 1 2) (lt 1 3) (lt 2 3) i j := by
    intro i j hi hj
    match i, j, hi, hj with
    | 0, 0, _, _ => exact hirr 0
    | 1, 1, _, _ => exact hirr 1
    | 2, 2, _, _ => exact hirr 2
    | 3, 3, _, _ => exact hirr 3
    | 0, 1, _, _ => rfl
    | 0, 2, _, _ => rfl
    | 0, 3, _, _ => rfl
    | 1, 2, _, _ => rfl
    | 1, 3, _, _ => rfl
    | 2, 3, _, _ => rfl
    | 1, 0, _, _ => exact hanti 0 1 (by decide)
    | 2, 0, _, _ => exact hanti 0 2 (by decide)
    | 3, 0, _, _ => exact hanti 0 3 (by decide)
    | 2, 1, _, _ => exact hanti 1 2 (by decide)
    | 3, 1, _, _ => exact hanti 1 3 (by decide)
    | 3, 2, _, _ => exact hanti 2 3 (by decide)
  have all_congr : ∀ (l : List Nat) (f g : Nat → Bool), (∀ x ∈ l, f x = g x) → l.all f = l.all g := by
    intro l f g h
    induction l with
    | nil => rfl
    | cons a l ih => rw [List.all_cons, List.all_cons, h a (.head _), ih fun x hx => h x (.tail _ hx)]
  have htB : ∀ m, trB m lt = true := by
    intro m
    unfold trB
    refine List.all_eq_true.mpr fun i _ => List.all_eq_true.mpr fun j _ => List.all_eq_true.mpr fun k _ => ?_
    cases h1 : lt i j
    · rfl
    · cases h3 : lt j k
      · rfl
      · rw [htr i j k h1 h3]; rfl
  have trE : ∀ m, m ≤ 4 → trB m lt = trB m (lt6 (lt 0 1) (lt 0 2) (lt 0 3) (lt 1 2) (lt 1 3) (lt 2 3)) := by
    intro m hm
    unfold trB
    refine all_congr _ _ _ fun i hi => all_congr _ _ _ fun j hj => all_congr _ _ _ fun k hk => ?_
    have hi := List.mem_range.mp hi
    have hj := List.mem_range.mp hj
    have hk := List.mem_range.mp hk
    rw [e i j (by (first | lia | omega)) (by (first | lia | omega)), e j k (by (first | lia | omega)) (by (first | lia | omega)), e i k (by (first | lia | omega)) (by (first | lia | omega))]
  have key : ∀ m, m ≤ 4 → kOk m (kas_sort m) = true → (!(trB m (lt6 (lt 0 1) (lt 0 2) (lt 0 3) (lt 1 2) (lt 1 3) (lt 2 3))) || goodB m (lt6 (lt 0 1) (lt 0 2) (lt 0 3) (lt 1 2) (lt 1 3) (lt 2 3)) (kRun (lt6 (lt 0 1) (lt 0 2) (lt 0 3) (lt 1 2) (lt 1 3) (lt 2 3)) (kas_sort m))) = true → 0 < m →
      goodB m lt (kRun lt (kas_sort m)) = true := by
    intro m hm ho hg hm0
    rw [← trE m hm, htB m] at hg
    have hg : goodB m (lt6 (lt 0 1) (lt 0 2) (lt 0 3) (lt 1 2) (lt 1 3) (lt 2 3)) (kRun (lt6 (lt 0 1) (lt 0 2) (lt 0 3) (lt 1 2) (lt 1 3) (lt 2 3)) (kas_sort m)) = true := hg
    rw [kRun_congr (fun i j hi hj => e i j (by (first | lia | omega)) (by (first | lia | omega))) _ ho]
    generalize kRun (lt6 (lt 0 1) (lt 0 2) (lt 0 3) (lt 1 2) (lt 1 3) (lt 2 3)) (kas_sort m) = p at hg ⊢
    unfold goodB at hg ⊢
    simp only [Bool.and_eq_true] at hg ⊢
    rcases hg with ⟨⟨hs, hb⟩, hl⟩
    refine ⟨⟨hs, hb⟩, ?_⟩
    have hs' : p.size = m := by simpa using hs
    have hlt : ∀ k, k < m → p.getD k 0 < m := by
      intro k hk
      have hk' : k < p.size := by (first | lia | omega)
      have := Array.all_eq_true.mp hb k hk'
      simpa [Array.getD, hk'] using this
    have h1 := hlt (m - 1) (by (first | lia | omega))
    have h0 := hlt 0 hm0
    rw [all_congr _ _ _ fun i hi => ?_]
    · exact hl
    · have hi := List.mem_range.mp hi
      rw [e i _ (by (first | lia | omega)) (by (first | lia | omega)), e _ i (by (first | lia | omega)) (by (first | lia | omega))]
  have : n = 2 ∨ n = 3 ∨ n = 4 := by (first | lia | omega)
  obtain rfl | rfl | rfl := this
  · exact ⟨o2, key 2 (by decide) o2 g2 (by decide)⟩
  · exact ⟨o3, key 3 (by decide) o3 g3 (by decide)⟩
  · exact ⟨o4, key 4 (by decide) o4 g4 (by decide)⟩
section
variable {w : World} {A : Around} {E : Value → Shared → Prop} {s : Shared}
/-- list.sort of a list of tuples, by an oracle of its comparisons -/
theorem tsort {a : Addr} {vs : List Value} {n : Nat} {lt : Nat → Nat → Bool} {κ : SortKind} {P : PySem.Fin → Shared → Prop} (ho : s.heap.get? a = some (seqObj "list" vs.toArray n)) (h2 : 2 ≤ vs.length) (h64 : vs.length < 64) (hok : kOk vs.length (kas_sort vs.length) = true) (hp : (kRun lt (kas_sort vs.length)).size = vs.length)
    (hkind : ∀ (s' : Shared) (Q : SortKind → Shared → Prop), (∀ b o, b ≠ a → s.heap.get? b = some o → s'.heap.get? b = some o) → Q κ s' → wpAny (model P0 w) A (keyKind' vs.toArray) Q (fun _ _ => False) s')
    (hask : ∀ (i j : Nat) (C : Bool → Shared → Prop) (s' : Shared), i < vs.length → j < vs.length → (∀ b o, b ≠ a → s.heap.get? b = some o → s'.heap.get? b = some o) → (∀ tk, C (lt i j) { s' with toks := tk }) →
      wpAny (model P0 w) A (keyLt' κ (vs.getD i Value.none) (vs.getD j Value.none)) C (fun _ _ => False) s')
    (hQ : ∀ h' tk c, (∀ b o, b ≠ a → s.heap.get? b = some o → h'.get? b = some o) → h'.get? a = some (seqObj "list" (List.toArray ((kRun lt (kas_sort vs.length)).toList.map fun i => vs.getD i Value.none)) c) → P (.done (.ret .none)) { s with heap := h', toks := tk }) :
    wpAny (model P0 w) A (Builtin.«list.sort» ⟨[.ref a], []⟩) P E s := by
  have ha : a < s.heap.objs.size := Heap.lt_size ho
  have s1 := Heap.SameBut.update s.heap a (Obj.mapSeq fun _ => (#[] : Array Value))
  obtain ⟨e1, ho1⟩ : ∃ e1, (s.heap.update a (Obj.mapSeq fun _ => (#[] : Array Value))).get? a = some (seqObj "list" #[] e1) := ⟨_, get?_update_seq ho fun _ => #[]⟩
  rw [list_sort_plain]
  refine wpAny_bind (listItems_at ho rfl ?_)
  refine wpAny_bind (listUpdate_at ho rfl ?_ (by rw [List.size_toArray, sizeLine_eq]; (first | lia | omega)) (Nat.zero_le _))
  refine wpAny_bind (seqEpoch_at ho1 rfl ?_)
  refine wpAny_bind (wpAny_newTuple ?_ (by show vs.length ≤ _; rw [sizeLine_eq]; (first | lia | omega)))
  refine wpAny_bind (wpAny_newList ?_ (Nat.zero_le _))
  refine wpAny_holding ?_
  show wpAny (model P0 w) A _ P E { s with heap := ((s.heap.update a (Obj.mapSeq fun _ => (#[] : Array Value))).push (seqObj "tuple" vs.toArray 0)).push (seqObj "list" #[] 0) }
  generalize hH : ((s.heap.update a (Obj.mapSeq fun _ => (#[] : Array Value))).push (seqObj "tuple" vs.toArray 0)).push (seqObj "list" #[] 0) = H
  have kH : ∀ b o, b ≠ a → s.heap.get? b = some o → H.get? b = some o := fun b o hb e => hH ▸ Heap.get?_push_of_some _ (Heap.get?_push_of_some _ ((s1.2 b hb).trans e))
  have hoH : H.get? a = some (seqObj "list" #[] e1) := hH ▸ Heap.get?_push_of_some _ (Heap.get?_push_of_some _ ho1)
  dsimp only
  have hn2 : ¬ vs.toArray.size < 2 := by rw [List.size_toArray]; (first | lia | omega)
  rw [if_neg hn2, if_neg hn2]
  refine wpAny_bind (wpAny_mono (hkind { s with heap := H } (fun κ' s' => κ' = κ ∧ s' = { s with heap := H }) kH ⟨rfl, rfl⟩) (fun κ' s0 hk => ?_) fun _ _ x => x.elim)
  obtain ⟨rfl, rfl⟩ := hk
  have run : (kas_sort vs.length).kasWp (kas_ask P0 w A κ' vs) (fun p s' => p = kRun lt (kas_sort vs.length) ∧ ∃ tk, s' = { s with heap := H, toks := tk }) { s with heap := H } := by
    refine kRun_wp (lt := lt) (n := vs.length) (P := fun s' => ∃ tk, s' = { s with heap := H, toks := tk }) (fun i j C s' hi hj hP hC => ?_) _ _ hok ⟨_, rfl⟩ fun s' hP => ⟨rfl, hP⟩
    obtain ⟨tk, rfl⟩ := hP
    exact hask i j C _ hi hj kH fun tk' => hC _ ⟨tk', rfl⟩
  refine wpAny_bind (wpAny_mono (kat_run (Q := fun st' s' => ∃ p : Array Nat, arrOf st' = p.map (kas_item (vs.toArray.zip vs.toArray)) ∧ failedOf st' = Option.none ∧ p = kRun lt (kas_sort vs.length) ∧ ∃ tk, s' = { s with heap := H, toks := tk })
    rfl h2 h64 (fun p' st' s' a1 a2 a3 a4 => ⟨p', a2, a3, a4⟩) run) ?_ fun _ _ e => e)
  rintro ⟨⟨⟩, st'⟩ s' ⟨p, har, hf, rfl, tk, rfl⟩
  dsimp only
  have hout := kat_snds rfl har
  rw [hout]
  generalize hO : List.toArray ((kRun lt (kas_sort vs.length)).toList.map fun i => vs.getD i Value.none) = out at hQ ⊢
  have hsz : out.size = vs.length := by rw [← hO, List.size_toArray, List.length_map, Array.length_toList, hp]
  have s2 := Heap.SameBut.update H a (Obj.mapSeq fun _ => out)
  obtain ⟨c2, hc2⟩ : ∃ c2, (H.update a (Obj.mapSeq fun _ => out)).get? a = some (seqObj "list" out c2) := ⟨_, get?_update_seq hoH fun _ => out⟩
  refine wpAny_bind (seqEpoch_at hoH rfl ?_)
  refine wpAny_bind (listUpdate_at hoH rfl ?_ (Nat.zero_le _) (Nat.le_trans (Nat.le_of_eq hsz) (by rw [sizeLine_eq]; (first | lia | omega))))
  rw [hf]
  simp only [bne_self_eq_false, Bool.false_eq_true, if_false]
  exact wpAny_pure (hQ _ _ c2 (fun b o hb e => (s2.2 b hb).trans (kH b o hb e)) hc2)
end
end Mine
end
section
open PySem PySem.W PySem.Calls PyProof.Rows
set_option Elab.async false
set_option maxRecDepth 100000
set_option linter.unusedVariables false
namespace Mine
noncomputable
def keyD (ks : List Int) : List D := ks.zipIdx.map fun p => .tup [.int p.1, .int (p.2 : Int)]
noncomputable
def ltK (ks : List Int) (i j : Nat) : Bool := decide (ks.getD i 0 < ks.getD j 0) || (ks.getD i 0 == ks.getD j 0 && decide (i < j))
noncomputable
def sortI (ks : List Int) : Array Nat := kRun (ltK ks) (kas_sort ks.length)
theorem keyD_len (ks : List Int) : (keyD ks).length = ks.length := by simp [keyD]
theorem keyD_get {ks : List Int} {i : Nat} (h : i < ks.length) : (keyD ks)[i]? = some (.tup [.int (ks.getD i 0), .int (i : Int)]) := by
  simp [keyD, h]
theorem keyD_deep (ks : List Int) : D.deepAll (keyD ks) = true := by
  have : ∀ l : List (Int × Nat), D.deepAll (l.map fun p => .tup [.int p.1, .int (p.2 : Int)]) = true := by
    intro l
    induction l with
    | nil => rfl
    | cons p l ih => simp only [List.map_cons, D.deepAll, Bool.and_eq_true]; exact ⟨rfl, ih⟩
  exact this _
theorem sortI_good {ks : List Int} (h2 : 2 ≤ ks.length) (h4 : ks.length ≤ 4) : kOk ks.length (kas_sort ks.length) = true ∧ goodB ks.length (ltK ks) (sortI ks) = true := by
  refine sort_good h2 h4 (ltK ks) (fun i j hij => ?_) (fun i => ?_) fun i j k h1 h3 => ?_
  · unfold ltK
    rw [Bool.eq_iff_iff]
    simp only [Bool.or_eq_true, Bool.and_eq_true, decide_eq_true_eq, beq_iff_eq, Bool.not_eq_true', Bool.or_eq_false_iff, Bool.and_eq_false_iff, decide_eq_false_iff_not, beq_eq_false_iff_ne]
    (first | lia | omega)
  · unfold ltK; simp
  · unfold ltK at *
    simp only [Bool.or_eq_true, Bool.and_eq_true, decide_eq_true_eq, beq_iff_eq] at *
    (first | lia | omega)
/-- the place of the greatest key, and of the least -/
theorem sortI_max {ks : List Int} (h2 : 2 ≤ ks.length) (h4 : ks.length ≤ 4) : (sortI ks).size = ks.length ∧ (sortI ks).getD (ks.length - 1) 0 < ks.length ∧ (sortI ks).getD 0 0 < ks.length ∧
    ∀ i, i < ks.length → ks.getD i 0 ≤ ks.getD ((sortI ks).getD (ks.length - 1) 0) 0 ∧ ks.getD ((sortI ks).getD 0 0) 0 ≤ ks.getD i 0 := by
  have hg := (sortI_good h2 h4).2
  unfold goodB at hg
  simp only [Bool.and_eq_true] at hg
  rcases hg with ⟨⟨hs, hb⟩, hl⟩
  have hs' : (sortI ks).size = ks.length := by simpa using hs
  have hlt : ∀ k, k < ks.length → (sortI ks).getD k 0 < ks.length := by
    intro k hk
    have hk' : k < (sortI ks).size := by (first | lia | omega)
    have := Array.all_eq_true.mp hb k hk'
    simpa [Array.getD, hk'] using this
  refine ⟨hs', hlt _ (by (first | lia | omega)), hlt _ (by (first | lia | omega)), fun i hi => ?_⟩
  have := List.all_eq_true.mp hl i (List.mem_range.mpr hi)
  simp only [Bool.and_eq_true, Bool.or_eq_true, beq_iff_eq] at this
  obtain ⟨h1, h3⟩ := this
  constructor
  · obtain h1 | h1 := h1
    · exact h1 ▸ Int.le_refl _
    · unfold ltK at h1
      simp only [Bool.or_eq_true, Bool.and_eq_true, decide_eq_true_eq, beq_iff_eq] at h1
      (first | lia | omega)
  · obtain h3 | h3 := h3
    · exact h3 ▸ Int.le_refl _
    · unfold ltK at h3
      simp only [Bool.or_eq_true, Bool.and_eq_true, decide_eq_true_eq, beq_iff_eq] at h3
      (first | lia | omega)
noncomputable
def sortD (ks : List Int) : List D := (sortI ks).toList.map fun i => (keyD ks).getD i .none
theorem sorted_ok {ks : List Int} (h2 : 2 ≤ ks.length) (h4 : ks.length ≤ 4) : CallOk 0 (.builtin "sorted") [.lst (keyD ks)] (some (.lst (sortD ks))) := by
  refine ⟨keep_bi, ?_⟩
  intro w A base outer s vs Q E hA hd hu hfr hfun hst hsta hrd hQ hE
  obtain ⟨v, rfl, r⟩ := hrd.one
  rcases Rd.lst_inv r with ⟨_, _, _, _, hve0, ho, hc, hd', hr⟩
  first | subst hve0 | obtain ⟨⟩ := hve0
  case _ =>
    rename_i l ol items nl
    obtain ⟨items⟩ := items
    have hlen : items.length = ks.length := by have := hr.length; rw [keyD_len] at this; exact this
    have hit : ∀ i, i < ks.length → ∃ t ot n k1 k2, items.getD i Value.none = .ref t ∧ s.heap.get? t = some ot ∧ ot.cls = .type "tuple" ∧ ot.data = .seq #[.int (ks.getD i 0) k1, .int (i : Int) k2] n := by
      intro i hi
      rcases hr.get (keyD_get hi) with ⟨v, hv, rv⟩
      have hv : items[i]? = some v := hv
      have hg : items.getD i Value.none = v := by rw [List.getD_eq_getElem?_getD, hv]; rfl
      cases rv with
      | @tup t ot arr n _ t1 t2 t3 t4 =>
        rcases t4.two with ⟨u1, u2, hvs, q1, q2⟩
        have harr : arr = #[u1, u2] := Array.toList_inj.mp hvs
        cases q1; cases q2
        exact ⟨t, ot, _, _, _, hg, t1, t2, by rw [t3, harr]⟩
    obtain ⟨hok, _⟩ := sortI_good h2 h4
    have hps := (sortI_max h2 h4).1
    have hl : s.heap.IsList l items.toArray := ⟨_, ho, hc, _, hd'⟩
    refine Calls.call_function_entry kind_sorted plain_sorted entry_sorted (args_sorted1 _) ?_
    unfold Builtin.«sorted»
    refine wpAny_bind (m := checkCount "sorted" 1 1 _) (wpAny_pure ?_)
    refine wpAny_bind (collect_list hl ?_ (by rw [hlen, sizeLine_eq]; (first | lia | omega)))
    refine wpAny_bind (wpAny_newList ?_ (by rw [hlen, sizeLine_eq]; (first | lia | omega)))
    have hsz : ((s.heap.push (seqObj "list" #[] 0)).update s.heap.objs.size (Obj.mapSeq (· ++ items.toArray))).objs.size = s.heap.objs.size + 1 := by
      rw [Heap.size_update, size_push']
    generalize hH : ((s.heap.push (seqObj "list" #[] 0)).update s.heap.objs.size (Obj.mapSeq (· ++ items.toArray))).push (seqObj "list" items.toArray 0) = H
    have hoL : H.get? (s.heap.objs.size + 1) = some (seqObj "list" items.toArray 0) := by
      rw [← hH, ← hsz]; exact Heap.get?_push_size _ rfl
    have keep : Kp s.heap H := fun b o q => by
      have hlt : b < s.heap.objs.size := Heap.lt_size q
      rw [← hH, Heap.get?_push_ne _ _ _ (by rw [hsz]; exact Nat.ne_of_lt (Nat.lt_succ_of_lt hlt)), Heap.get?_update_ne _ _ _ _ (Nat.ne_of_lt hlt), Heap.get?_push_ne _ _ _ (Nat.ne_of_lt hlt)]
      exact q
    show wpAny _ _ _ _ _ { s with heap := H }
    rw [hsz]
    have hfr1 : ∀ {h' : Heap}, (∀ b o, b ≠ s.heap.objs.size + 1 → H.get? b = some o → h'.get? b = some o) → Kp s.heap h' := fun k b o e => k b o (Nat.ne_of_lt (Nat.lt_succ_of_lt (Heap.lt_size e))) (keep _ _ e)
    refine wpAny_bind (wpAny_holding (wpAny_call_entry slot_list_sort ⟨_, hoL, rfl⟩ entry_list_sort ?body (args_list_sort _)))
    case body =>
      refine tsort (s := { s with heap := H }) (lt := ltK ks) (κ := tuples' (Value.type "int" != Value.type "tuple")) hoL (by rw [hlen]; exact h2) (by rw [hlen]; (first | lia | omega)) (by rw [hlen]; exact hok) (by rw [hlen]; exact hps) (fun s' Q' k hq => ?_) (fun i j C s' hi hj k hC => ?_) (fun h' tk c k hh => ?_)
      · have kk := hfr1 k
        have tups : ∀ (l : List Value), (∀ (i : Nat) (v : Value), l[i]? = some v → ∃ (t : Addr) (ot : Obj) (n : Nat) (k0 : Int) (k1 : Tok) (k2 : Tok) (r : Value), v = Value.ref t ∧ s.heap.get? t = some ot ∧ ot.cls = .type "tuple" ∧ ot.data = .seq #[.int k0 k1, r] n ∧ k2 = k1) → ∃ fs, KatTups s'.heap l fs ∧ fs.length = l.length ∧ ∀ v ∈ fs, ∃ x t, v = Value.int x t := by
          intro l
          induction l with
          | nil => intro _; exact ⟨[], KatTups.nil, rfl, fun _ h => by simp at h⟩
          | cons v l ih =>
            intro h
            rcases ih fun i v hv => h (i + 1) v (by simpa using hv) with ⟨fs, h1, h3, h5⟩
            rcases h 0 v rfl with ⟨t, ot, n, k0, k1, k2, r, rfl, t1, t2, t3, _⟩
            refine ⟨.int k0 k1 :: fs, KatTups.cons (kk _ _ t1) t2 t3 rfl h1, by simp [h3], fun u hu => ?_⟩
            obtain rfl | hu := List.mem_cons.mp hu
            · exact ⟨_, _, rfl⟩
            · exact h5 u hu
        obtain ⟨fs, hK, hfl, hfi⟩ := tups items fun i v hv => by
          have hi : i < ks.length := by rw [← hlen]; exact (List.getElem?_eq_some_iff.mp hv).1
          rcases hit i hi with ⟨t, ot, n, k1, k2, hg, t1, t2, t3⟩
          have hg' : items.getD i Value.none = v := by rw [List.getD_eq_getElem?_getD, hv]; rfl
          rw [hg] at hg'
          exact ⟨t, ot, n, _, k1, k1, _, hg'.symm, t1, t2, t3, rfl⟩
        refine kat_kind (T := .type "int") hK (by (first | lia | omega)) (fun v hv => ?_) (by decide +kernel) hq
        obtain ⟨x, t, rfl⟩ := hfi v hv
        exact Looks.of_pure rfl
      · have kk := hfr1 k
        rcases hit i (by (first | lia | omega)) with ⟨t, ot, n, k1, k2, hg, t1, t2, t3⟩
        rcases hit j (by (first | lia | omega)) with ⟨t', ot', n', k1', k2', hg', t1', t2', t3'⟩
        rw [hg, hg']
        have hb : (Value.type "int" != Value.type "tuple") = true := by decide +kernel
        rw [hb]
        refine kat_lt (kk _ _ t1) t3 (kk _ _ t1') t3' ?_
        refine kat_cons (wpAny_eqBool_int (kat_go (fun he => kat_yes (kat_cons (wpAny_eqBool_int (kat_go (fun he2 => kat_yes (kat_nil ?_)) fun he2 => kat_no (kat_one _ _ (PyProof.Rows.lt_int ?_)))))) fun he => kat_no ?_))
        · have h1 : ks.getD i 0 = ks.getD j 0 := by simpa using he
          have h3 : i = j := by have : (i : Int) = (j : Int) := by simpa using he2
                                (first | lia | omega)
          have : ltK ks i j = false := by unfold ltK; rw [h3]; simp
          rw [show (decide ((#[Value.int (ks.getD i 0) k1, Value.int (i : Int) k2] : Array Value).size < (#[Value.int (ks.getD j 0) k1', Value.int (j : Int) k2'] : Array Value).size)) = ltK ks i j by rw [this]; rfl]
          exact hC s'.toks
        · have h1 : ks.getD i 0 = ks.getD j 0 := by simpa using he
          show C _ _
          rw [show decide ((i : Int) < (j : Int)) = ltK ks i j by unfold ltK; rw [h1]; simp]
          exact hC s'.toks
        · have h1 : (ks.getD i 0 == ks.getD j 0) = false := he
          show wpAny _ _ (oneLt' true _ _) _ _ _
          refine kat_lt_int ?_
          rw [show decide (ks.getD i 0 < ks.getD j 0) = ltK ks i j by unfold ltK; rw [h1]; simp]
          exact hC s'.toks
      · refine ⟨_, rfl, wpAny_pure ⟨_, rfl, ?_⟩⟩
        have kk := hfr1 k
        rw [hlen] at hh
        refine hQ (Value.ref (s.heap.objs.size + 1)) _ _ rfl ⟨kk, _, _, rfl⟩ fun g => .lst hh rfl rfl ?_
        have : ∀ (p : List Nat), (∀ i ∈ p, i < ks.length) → RdAll g h' (p.map fun i => items.getD i Value.none) (p.map fun i => (keyD ks).getD i .none) := by
          intro p
          induction p with
          | nil => intro _; exact .nil
          | cons i p ih =>
            intro h
            rcases hr.get (keyD_get (h i (.head _))) with ⟨v, hv, rv⟩
            refine .cons ?_ (ih fun j hj => h j (.tail _ hj))
            show Rd g h' (items.getD i Value.none) ((keyD ks).getD i .none)
            rw [List.getD_eq_getElem?_getD, List.getD_eq_getElem?_getD, keyD_get (h i (.head _))]
            have hv : items[i]? = some v := hv
            rw [hv]
            exact (rv.keeps kk).any rfl
        refine this _ fun i hi => ?_
        have hg := (sortI_good h2 h4).2
        unfold goodB at hg
        simp only [Bool.and_eq_true] at hg
        rcases Array.mem_iff_getElem.mp (Array.mem_toList_iff.mp hi) with ⟨k, hk, he⟩
        have := Array.all_eq_true.mp hg.1.2 k hk
        rw [← he]
        exact of_decide_eq_true this
end Mine
end
section
open PySem PySem.W PySem.Calls PyProof.Rows
set_option Elab.async false
set_option maxRecDepth 100000
set_option linter.unusedVariables false
namespace Mine
section
variable {c : Cx} {ρ : List (Str × D)} {o : Out}
theorem Tr.castP {e : Expr} {p q : Bool} (h : Tr c ρ e p) (hp : p = q) : Tr c ρ e q := hp ▸ h
theorem Exs.skipEq {nm k x : Str} {p1 p2 p3 pos : Pos} {kk : Nat} {b rest : List Stmt} {ns : List (Str × NameKind)} (hs : c.ns = ns) (hx : ns.lookup x = some .local) (hl : ρ.lookup x = some (.str nm)) (hne : (nm == k) = false) (h : Exs c ρ rest o) (hb : autoParam ((x == ("__debug__" : Str)) = false) aiDec) :
    Exs c ρ (.If (.Compare (.Name x p1) [.Eq] [.Constant (.str k) kk p2] p3) b [] pos :: rest) o :=
  Exs.if_ (p := false) (Tr.castP (Tr.cmp (Ev.loc hs hx hl hb) Ev.str cmp_eqS) hne) (fun h => by cases h) (fun _ => h)
theorem Exs.takeEq {nm k x : Str} {p1 p2 p3 pos : Pos} {kk : Nat} {b rest : List Stmt} {ns : List (Str × NameKind)} (hs : c.ns = ns) (hx : ns.lookup x = some .local) (hl : ρ.lookup x = some (.str nm)) (heq : (nm == k) = true) (h : Exs c ρ (b ++ rest) o) (hb : autoParam ((x == ("__debug__" : Str)) = false) aiDec) :
    Exs c ρ (.If (.Compare (.Name x p1) [.Eq] [.Constant (.str k) kk p2] p3) b [] pos :: rest) o :=
  Exs.if_ (p := true) (Tr.castP (Tr.cmp (Ev.loc hs hx hl hb) Ev.str cmp_eqS) heq) (fun _ => h) (fun h => by cases h)
theorem ev_two {k1 k2 : Str} {c1 c2 kk : Nat} {q1 q2 p2 : Pos} : Ev c ρ (.Tuple [.Constant (.str k1) c1 q1, .Constant (.str k2) c2 q2] kk p2) (some (.tup ([k1, k2].map D.str))) :=
  Ev.tup (Evs.cons Ev.str (Evs.cons Ev.str Evs.nil)) (by rw [sizeLine_eq]; simp)
theorem Exs.testIn {nm k1 k2 x : Str} {p1 p2 p3 q1 q2 pos : Pos} {kk c1 c2 : Nat} {b rest : List Stmt} {ns : List (Str × NameKind)} (hs : c.ns = ns) (hx : ns.lookup x = some .local) (hl : ρ.lookup x = some (.str nm)) (ho1 : PyData.strOk nm = true) (ho2 : ([k1, k2] : List Str).all PyData.strOk = true) (q : Bool) (hq : ([k1, k2] : List Str).any (fun y => y == nm) = q)
    (h1 : q = true → Exs c ρ (b ++ rest) o) (h2 : q = false → Exs c ρ rest o) (hb : autoParam ((x == ("__debug__" : Str)) = false) aiDec) :
    Exs c ρ (.If (.Compare (.Name x p1) [.In] [.Tuple [.Constant (.str k1) c1 q1, .Constant (.str k2) c2 q2] kk p2] p3) b [] pos :: rest) o := by
  refine ⟨fun O => ?_⟩
  have hu : c.A.units + 64 < cLine := by have := O.units; (first | lia | omega)
  exact (Exs.if_ (p := q) (o' := []) (Tr.castP (Tr.cmp (Ev.loc hs hx hl hb) ev_two (cmp_inT ho1 ho2 hu)) hq) h1 h2).go O
theorem Exs.skipIn {nm k1 k2 x : Str} {p1 p2 p3 q1 q2 pos : Pos} {kk c1 c2 : Nat} {b rest : List Stmt} {ns : List (Str × NameKind)} (hs : c.ns = ns) (hx : ns.lookup x = some .local) (hl : ρ.lookup x = some (.str nm)) (ho1 : PyData.strOk nm = true) (ho2 : ([k1, k2] : List Str).all PyData.strOk = true) (hq : ([k1, k2] : List Str).any (fun y => y == nm) = false)
    (h : Exs c ρ rest o) (hb : autoParam ((x == ("__debug__" : Str)) = false) aiDec) :
    Exs c ρ (.If (.Compare (.Name x p1) [.In] [.Tuple [.Constant (.str k1) c1 q1, .Constant (.str k2) c2 q2] kk p2] p3) b [] pos :: rest) o :=
  Exs.testIn hs hx hl ho1 ho2 false hq (fun h => by cases h) (fun _ => h) hb
theorem Exs.takeIn {nm k1 k2 x : Str} {p1 p2 p3 q1 q2 pos : Pos} {kk c1 c2 : Nat} {b rest : List Stmt} {ns : List (Str × NameKind)} (hs : c.ns = ns) (hx : ns.lookup x = some .local) (hl : ρ.lookup x = some (.str nm)) (ho1 : PyData.strOk nm = true) (ho2 : ([k1, k2] : List Str).all PyData.strOk = true) (hq : ([k1, k2] : List Str).any (fun y => y == nm) = true)
    (h : Exs c ρ (b ++ rest) o) (hb : autoParam ((x == ("__debug__" : Str)) = false) aiDec) :
    Exs c ρ (.If (.Compare (.Name x p1) [.In] [.Tuple [.Constant (.str k1) c1 q1, .Constant (.str k2) c2 q2] kk p2] p3) b [] pos :: rest) o :=
  Exs.testIn hs hx hl ho1 ho2 true hq (fun _ => h) (fun h => by cases h) hb
end
end Mine
end
section
open PySem PySem.W PySem.Calls PyProof.Rows
set_option Elab.async false
set_option maxRecDepth 100000
set_option linter.unusedVariables false
namespace Mine
section
variable {c : Cx} {ρ : List (Str × D)} {T : List (Str × Value)}
theorem tab_here {g h : Heap} {v : Value} {w : World} (kg : Kp g h) (r : Rd g h v (.tab (TabAt w T))) : ∃ a, v = .ref a ∧ (a == sysModules) = false ∧ h.DictOf (strKind P0 w) a T := by
  cases r with
  | tab _ x =>
    refine ⟨_, rfl, beq_eq_false_iff_ne.mpr fun q => ?_, DictOf.kp x.2 (kg _)⟩
    have := x.1
    rw [q] at this
    exact absurd this (by decide)
theorem Tr.inTab {l r : Expr} {pos : Pos} {k : Str} (h1 : Ev c ρ l (some (.str k))) (h2 : Ev c ρ r (some (.tab (TabAt c.w T)))) (hm : autoParam (behindInMarks .In r = false) aiWu) : Tr c ρ (.Compare l [.In] [r] pos) (valueAt T k).isSome := by
  refine ⟨fun O s Q E F hQ => ?_⟩
  refine wpAny_isTrue_Compare1 (h1.go1 O s _ _ F (fun v s₁ x rd => ?_)) hm
  refine h2.go1 O s₁ _ _ (F.ext x.keep) (fun v₂ s₂ x₂ rd₂ => ?_)
  have F₂ := (F.ext x.keep).ext x₂.keep
  rcases tab_here F₂.keep rd₂ with ⟨a, rfl, ha, hD⟩
  obtain ⟨t, rfl⟩ := Rd.str_inv rd
  case _ => exact wpAny_in_of (strKind_is _ _ _ _) ha hD.mapOf (wpAny_truthy_bool (hQ _ ((x.trans x₂).trans .tok)))
theorem Tr.notInTab {l r : Expr} {pos : Pos} {k : Str} (h1 : Ev c ρ l (some (.str k))) (h2 : Ev c ρ r (some (.tab (TabAt c.w T)))) (hm : autoParam (behindInMarks .NotIn r = false) aiWu) : Tr c ρ (.Compare l [.NotIn] [r] pos) (!(valueAt T k).isSome) := by
  refine ⟨fun O s Q E F hQ => ?_⟩
  refine wpAny_isTrue_Compare1 (h1.go1 O s _ _ F (fun v s₁ x rd => ?_)) hm
  refine h2.go1 O s₁ _ _ (F.ext x.keep) (fun v₂ s₂ x₂ rd₂ => ?_)
  have F₂ := (F.ext x.keep).ext x₂.keep
  rcases tab_here F₂.keep rd₂ with ⟨a, rfl, ha, hD⟩
  obtain ⟨t, rfl⟩ := Rd.str_inv rd
  case _ => exact wpAny_notIn_of (strKind_is _ _ _ _) ha hD.mapOf (wpAny_truthy_bool (hQ _ ((x.trans x₂).trans .tok)))
theorem Ev.tabAt {v i : Expr} {pos : Pos} {k : Str} {f : Value} (h1 : Ev c ρ v (some (.tab (TabAt c.w T)))) (h2 : Ev c ρ i (some (.str k))) (hf : valueAt T k = some f)
    (hs : autoParam (∀ o x u, subscripted i false (.ref o) (.str x u) = operate [.ref o, .str x u] (getItem (.ref o) (.str x u))) aiIwu) : Ev c ρ (.Subscript v i pos) (some (.val f)) := by
  refine ⟨fun O s Q E F hQ _ => ?_⟩
  refine Subscript_ (h1.go1 O s _ _ F (fun v₁ s₁ x₁ rd₁ => ?_))
  refine h2.go1 O s₁ _ _ (F.ext x₁.keep) (fun v₂ s₂ x₂ rd₂ => ?_)
  have F₂ := (F.ext x₁.keep).ext x₂.keep
  rcases tab_here F₂.keep (rd₁.keeps x₂.keep) with ⟨a, rfl, ha, hD⟩
  obtain ⟨t, rfl⟩ := Rd.str_inv rd₂
  case _ => exact tail_any hD.mapOf.typeIs slot_dict_getitem.lookup (wpAny_getItem_of (strKind_is _ _ _ _) hD.mapOf hf (hQ _ _ _ rfl ((x₁.trans x₂).trans .tok) (.val _))) (hs _ _ _)
end
/-- a contract in one world -/
structure CallAt (w : World) (k : Nat) (f : Value) (ds : List D) (r : Option D) : Prop where
  keep : ∀ (w : World) (h : Heap), Sta w h → ∃ k, (k = Keeper.frame ∨ k = Keeper.machine ∨ k = Keeper.boundFrame) ∧ Looks (model P0 w) h (keeperOf f) k
  go : ∀ (A : Around) (base : Heap) (outer : List Env) (s : Shared) (vs : List Value) (Q E : Value → Shared → Prop),
    A.handled = none → A.depth + k < recursionLimit → A.units + 10 * k + 100 < cLine → A.frames = some outer → s.heap.FunFrames base outer → base.StaysIn s.heap → Sta w s.heap →
    RdAll s.heap s.heap vs ds →
    (∀ v s' d, r = some d → Ext s s' → (∀ g, Rd g s'.heap v d) → Q v s') →
    (∀ e t s', r = none → Heap.FlyingW base outer e (.ref 44) (.ref t) s'.heap → s.heap.UpToSlots s'.heap → Same s s' → E (.ref e) s') →
    wpAny (model P0 w) A (call f vs) Q E s
theorem CallAt.fn {w₀ : World} {n : Nat} {f : Addr} {ds : List D} {r : Option D} {name : Str} {params : Arguments} {body : List Stmt} {scope : Scope} {ps : Pos} (i : Nat) (xs : List Str)
    (hg : ∀ P, nsIn (Ks P) mainGlobals name = some (some (.ref f)))
    (hst : P0.main.body[i]? = some (PySem.Stmt.FunctionDef name params body [] none [] scope none name ps))
    (hbind : ∀ (vs : List Value) (pm cd doc : Value), vs.length = ds.length → bindArgs (docDef name params body scope pm cd doc) ⟨vs, []⟩ = Pure.pure (xs.zip vs))
    (hloc : (xs.all fun x => decide (scope.names.lookup x = some .local)) = true)
    (hcell : (scope.names.all fun x => x.2 != .cell) = true)
    (hk : scope.kind = .function) (hco : scope.isCoroutine = false) (hgen : scope.isGenerator = false)
    (hdeep : ∀ d, r = some d → d.deep = true)
    (h : ∀ c : Cx, c.n = n → c.ns = scope.names → c.w = w₀ → Exs c (xs.zip ds).reverse body (outOf r)) : CallAt w₀ (n + 1) (.ref f) ds r := by
  refine ⟨fun w h hsta => ?_, ?_⟩
  · rcases hsta.fn _ _ _ _ _ _ hst with ⟨f', fo, pm, cd, doc, ⟨mg, hmg, hmf⟩, ho', hod, hcd⟩
    rw [mg_of hsta.inK hmg (hg _)] at hmf
    cases hmf
    refine ⟨.frame, .inl rfl, (Looks.ld (part := none) ho').andThen ?_⟩
    rw [hod]
    exact .now
  intro A base outer s vs Q E hA hd hu hfr hfun hst' hsta hrd hQ hE
  rcases hsta.fn _ _ _ _ _ _ hst with ⟨f', fo, pm, cd, doc, ⟨mg, hmg, hmf⟩, ho', hod, hcd⟩
  rw [mg_of hsta.inK hmg (hg _)] at hmf
  cases hmf
  have hlen := hrd.length
  refine wpAny_call ?_
  refine codeAny_call_def (fd := docDef name params body scope pm cd doc) (body := body) (by (first | lia | omega)) ho' hod hsta.nolimit hcd rfl (BindsTo.of_eq (hbind vs pm cd doc hlen)) ?_ ?_ (fun h₀ hns hk₀ => ?_) hco hgen hk
  · intro x hx e
    have := List.all_eq_true.mp hcell x hx
    simp [e] at this
  · intro x hx
    have hx' : x.1 ∈ xs := (List.of_mem_zip (a := x.1) (b := x.2) hx).1
    exact of_decide_eq_true (List.all_eq_true.mp hloc _ hx')
  let env := callEnv (docDef name params body scope pm cd doc) s.heap.objs.size f
  let c : Cx := ⟨w₀, A.deeper env, env, s.heap, base, outer, n, scope.names, env :: outer, false⟩
  have O : c.Ok := ⟨hk, rfl, rfl, rfl, fun _ => rfl, hA, by show A.depth + 1 + n < _; (first | lia | omega), by show A.units + 3 + 10 * n + 100 < _; (first | lia | omega), Around.frames_deeper hfr, fun _ => rfl, fun _ => hfun, fun h => (nomatch h), hst', hsta, fresh_size _⟩
  have F : Fm c (xs.zip ds).reverse h₀ := by
    refine ⟨⟨_, hns, fun x d hx _ => ((Env2.zip (hrd.keeps hk₀)).reverse).look hx⟩, fun x d hx hc => ?_, hk₀, fun _ x hc => ?_⟩
    all_goals exact (nocell_lookup (fun x hx e => by have := List.all_eq_true.mp hcell x hx; simp [e] at this) hc).elim
  refine (h c rfl rfl rfl).go O { s with heap := h₀, toks := s.toks + _ } _ _ F ⟨?_, ?_, ?_⟩
  · intro ρ' s' hq
    cases r <;> cases hq
  · intro v s' d hq kl hs kg rd
    cases r with
    | none => cases hq
    | some d' =>
      cases hq
      exact hQ v s' _ rfl ⟨kg, (Same.mk' (s := s)).trans hs⟩ fun g => rd.any (hdeep _ rfl)
  · intro e s' hq hs hl
    cases r with
    | some d' => cases hq
    | none =>
      obtain ⟨a, rfl, hl⟩ := hl
      refine hl rfl _ _ fun h' t x1 x2 => ?_
      obtain ⟨h1, t1, rfl⟩ := (Same.mk' (s := s)).trans hs
      exact hE a t _ rfl x1 x2 ⟨h', t1, rfl⟩
end Mine
end
section
open PySem PySem.W PySem.Calls PyProof.Rows
set_option Elab.async false
set_option maxRecDepth 100000
set_option linter.unusedVariables false
namespace Mine
theorem putL_len (name : Str) (hh : Int) (k v : Value) : ∀ es : List DictEntry, (putL name hh k v es).length ≤ es.length + 1
  | [] => by simp [putL]
  | e :: r => by
    have ih := putL_len name hh k v r
    rw [putL]
    split
    · simp
    · simpa using ih
/-- x.name = v on a fresh Limits -/
theorem set_lim {w : World} {A : Around} {E : Value → Shared → Prop} {s : Shared} {x dx : Addr} {es : List DictEntry} {n : Nat} {name : Str} {v : Value} {Q : Unit → Shared → Prop} (X : (Ks w.params).In s.heap)
    (hx : s.heap.get? x = some (instObj 71 dx)) (hdx : s.heap.get? dx = some (dictOf es n)) (hl : (getL name es).isSome = true) (hz : es.length ≤ 100)
    (ht : takerIn (Ks w.params) 71 name = some none)
    (hQ : ∀ h' tk t, (∀ b o, b ≠ dx → s.heap.get? b = some o → h'.get? b = some o) → h'.get? dx = some (dictOf (putL name (PyData.keyHash w.params name) (.str name t) v es) (putN name es n)) → Q () { s with heap := h', toks := tk }) :
    wpAny (model P0 w) A (setAttr (.ref x) name v) Q E s := by
  rcases s with ⟨h, g, d, t, os⟩
  have X : (Ks w.params).In h := X
  have hx : h.get? x = some (instObj 71 dx) := hx
  have hdx : h.get? dx = some (dictOf es n) := hdx
  have I : InstAt h x (instObj 71 dx) 71 (some (dictOf es n)) := ⟨hx, rfl, rfl, hdx⟩
  refine set_plain (s := ⟨h, g, d, t, os⟩) X I (by kernel_rfl) ?_
  refine osa_open (s := ⟨h, g, d, t + 1, os⟩) X I (by kernel_rfl) ht fun b => ?_
  have hc : (clsIn (Ks w.params) 71) = some { name := Str.ofString "Limits", bases := [Value.type "object"], mro := [Value.ref 71, Value.type "object"], ns := 70, qualname := Str.ofString "Limits" } := by kernel_rfl
  dsimp only
  unfold Builtin.ObjectAttr.storeInOwnDict
  refine wpAny_bind (wpAny_pure (wpAny_bind (wpAny_bind (wpAny_loadPart hx (wpAny_bind ((looks_clsIn (M := model P0 w) X hc).at ?_))))))
  refine wpAny_pure (a := some dx) (wpAny_bind (wpAny_pure (wpAny_bind ?_)))
  unfold nsSet
  refine wpAny_bind (wpAny_bind (wpAny_askSetting (wpAny_pure (wpAny_bind (wpAny_mkText (wpAny_bind (wpAny_loadPart hdx ?_)))))))
  dsimp only
  have c : (!es.toArray.any (·.key.isStr name) && es.toArray.any (·.refKey)) = false := by
    rw [← Array.any_toList, ← Array.any_toList]
    unfold getL at hl
    split at hl
    · rename_i en he
      rw [List.any_eq_true.mpr ⟨en, List.mem_of_find?_eq_some he, List.find?_some he⟩]; rfl
    · split at hl
      · cases hl
      · rename_i z; rw [Bool.not_eq_true] at z
        show (_ && es.any _) = false
        rw [z, Bool.and_false]
  rw [aRefKeyMayBeTheName_at, c]
  have D' : (h.update dx (Obj.putName name (PyData.keyHash w.params name) (.str name (t + 1)) v)).get? dx = some (dictOf (putL name (PyData.keyHash w.params name) (.str name (t + 1)) v es) (putN name es n)) := by
    rw [Heap.get?_update_self _ hdx (by rw [putName_dict]; rfl), putName_dict]
  have hlen := putL_len name (PyData.keyHash w.params name) (.str name (t + 1)) v es
  refine wpAny_updatePart hdx ?_
  refine wpAny_bind (wpAny_lookBehind D' (pastItsLine_dict (by rw [List.size_toArray, sizeLine_eq]; (first | lia | omega))) ?_)
  exact wpAny_pure (hQ _ _ (t + 1) (fun b o hb e => (Heap.get?_update_other _ _ (Ne.symm hb)).trans e) D')
section
variable {c : Cx} {ρ : List (Str × D)}
theorem lim_step {fld sf : Str} {i : Int} {p1 p2 p3 p4 : Pos} {rest : List Stmt} {s₁ : Shared} {es : List DictEntry} {n m : Nat} {x dx : Addr} {ns : List (Str × NameKind)} {Q : Flow → Shared → Prop} {E : Value → Shared → Prop} (O : c.Ok) (hs : c.ns = ns) (hsf : ns.lookup sf = some .local) (hfl : ns.lookup fld = some .local) (hl1 : ρ.lookup sf = some (.val (.ref x))) (hl2 : ρ.lookup fld = some (.int i))
    (hb1 : (sf == ("__debug__" : Str)) = false) (hb2 : (fld == ("__debug__" : Str)) = false) (hdg : c.g.get? dx = none) (hdL : c.env.locals ≠ dx) (hxd : x ≠ dx) (F : Fm c ρ s₁.heap) (hx : s₁.heap.get? x = some (instObj 71 dx)) (hdx : s₁.heap.get? dx = some (dictOf es n)) (hl : (getL fld es).isSome = true) (hz : es.length ≤ m) (hm : m ≤ 100)
    (ht : ∀ P, takerIn (Ks P) 71 fld = some none) (hw : ∀ env, swapsWith (.Name fld p3) (some (.Attribute (.Name sf p1) fld p2)) p4.line env = pure false)
    (h : ∀ s₂ t u, Fm c ρ s₂.heap → Same s₁ s₂ → s₂.heap.get? x = some (instObj 71 dx) → s₂.heap.get? dx = some (dictOf (putL fld (PyData.keyHash c.w.params fld) (.str fld t) (.int i u) es) (putN fld es n)) → (putL fld (PyData.keyHash c.w.params fld) (.str fld t) (.int i u) es).length ≤ m + 1 → wpAny c.M c.A (execs rest c.env) Q E s₂) :
    wpAny c.M c.A (execs (.Assign [.Attribute (.Name sf p1) fld p2] (.Name fld p3) p4 :: rest) c.env) Q E s₁ := by
  refine wpAny_execs_cons (plainObj_wpAny_Assign_Attribute (hs := hw _) ?_)
  refine (Ev.loc hs hfl hl2 hb2).go1 O s₁ _ _ F (fun v s₂ x₂ r₂ => ?_)
  have F₂ := F.ext x₂.keep
  refine (Ev.loc hs hsf hl1 hb1).go1 O s₂ _ _ F₂ (fun v' s₃ x₃ r₃ => ?_)
  cases r₃
  have F₃ := F₂.ext x₃.keep
  obtain ⟨u, rfl⟩ := Rd.int_inv r₂
  case _ =>
    have kk := x₂.keep.trans x₃.keep
    refine set_lim (O.sta.inK.keeps F₃.keep) (kk _ _ hx) (kk _ _ hdx) hl (Nat.le_trans hz hm) (ht _) fun h' tk t k hd' => ?_
    have F₄ : Fm c ρ h' := F₃.sameC (C := dx) ⟨_, _, _, kk _ _ hdx, rfl⟩ hdL hdg k
    exact h { s₃ with heap := h', toks := tk } t u F₄ ((x₂.same.trans x₃.same).trans ⟨h', tk, rfl⟩) (k _ _ hxd (kk _ _ hx)) hd' (Nat.le_trans (putL_len _ _ _ _ _) (Nat.succ_le_succ hz))
end
theorem lim_init {w : World} {A : Around} {base h₀ : Heap} {outer : List Env} {s : Shared} {x dx : Addr} {wd : Int} {t1 t2 t3 t4 : Tok} {R : Result → Shared → Prop}
    (hA : A.handled = none) (hd : A.depth + 1 < recursionLimit) (hu : A.units + 103 < cLine) (hfr : A.frames = some outer) (hfun : h₀.FunFrames base outer) (hst : base.StaysIn h₀) (hsta : Sta w h₀) (hk : Kp h₀ s.heap)
    (hx : s.heap.get? x = some (instObj 71 dx)) (hdx : s.heap.get? dx = some emptyDict) (hxn : h₀.get? x = none) (hdn : h₀.get? dx = none)
    (hq : ∀ h' tk, Kp h₀ h' → LimAt h' x wd → R (.ok (.ret .none)) { s with heap := h', toks := tk }) :
    codeAny (model P0 w) A (.call (.ref 68) ⟨[.ref x, .int wd t1, .int 4 t2, .int 9 t3, .int 30 t4], []⟩) R s := by
  have X := hsta.inK.keeps hk
  have hxd : x ≠ dx := fun q => by rw [q, hdx] at hx; cases hx
  refine enter (n := 0) (o := K68 w.params) (binds := [(Str.ofString "self", .ref x), (Str.ofString "width", .int wd t1), (Str.ofString "real_digits", .int 4 t2), (Str.ofString "double_digits", .int 9 t3), (Str.ofString "top_exponent", .int 30 t4), (Str.ofString "steps", .int 1000000 278), (Str.ofString "continuations", .int 19 279), (Str.ofString "columns", .int 72 280), (Str.ofString "depth", .int 40 281)])
    (ds := [(Str.ofString "self", .val (.ref x)), (Str.ofString "width", .int wd), (Str.ofString "real_digits", .int 4), (Str.ofString "double_digits", .int 9), (Str.ofString "top_exponent", .int 30), (Str.ofString "steps", .int 1000000), (Str.ofString "continuations", .int 19), (Str.ofString "columns", .int 72), (Str.ofString "depth", .int 40)]) hA (by (first | lia | omega)) (by (first | lia | omega)) hfr hfun hst hsta hk (X _ _ rfl) rfl (codeRec_of X (by kernel_rfl)) rfl ?hbind ?hcell ?hloc
    (.cons (.val _) (.cons (.int _ _) (.cons (.int _ _) (.cons (.int _ _) (.cons (.int _ _) (.cons (.int _ _) (.cons (.int _ _) (.cons (.int _ _) (.cons (.int _ _) .nil))))))))) rfl rfl rfl rfl rfl (fun c hn hs hg hb ho hw O h₁ tk F k₁ => ?_)
  case hbind =>
    exact BindsTo.of_defaults (T := 61) (o := K61 w.params) rfl (X _ _ rfl) rfl rfl rfl
  case hcell => intro x hx; revert x; decide
  case hloc =>
    intro y hy
    have hm : y.1 ∈ (["self", "width", "real_digits", "double_digits", "top_exponent", "steps", "continuations", "columns", "depth"] : List Str) := List.mem_map.mpr ⟨y, hy, rfl⟩
    exact of_decide_eq_true (p := (initAt 12).2.2.names.lookup y.1 = some .local) (List.all_eq_true.mp (show (["self", "width", "real_digits", "double_digits", "top_exponent", "steps", "continuations", "columns", "depth"] : List Str).all (fun n => decide ((initAt 12).2.2.names.lookup n = some .local)) = true by decide +kernel) _ hm)
  subst hw
  subst hg
  have hx₁ : h₁.get? x = some (instObj 71 dx) := k₁ _ _ hx
  have hdx₁ : h₁.get? dx = some (dictOf [] 0) := k₁ _ _ hdx
  have hdL : c.env.locals ≠ dx := by
    rcases F.ns with ⟨m, ⟨oL, es, ep, hL, hLd, hcl, hfind⟩, hm2⟩
    rcases hm2 (Str.ofString "self") (.val (.ref x)) rfl (by rw [hs]; decide +kernel) with ⟨v, hv, _⟩
    intro q
    rw [q, hdx₁] at hL
    cases hL
    cases hLd
    rw [← hfind] at hv
    cases hv
  have hs' : c.ns = (initAt 12).2.2.names := hs
  refine lim_step (x := x) (dx := dx) O hs' rfl rfl rfl rfl (by decide +kernel) (by decide +kernel) hdn hdL hxd F hx₁ hdx₁ (by rfl) (Nat.le_refl 0) (by decide) (fun P => by kernel_rfl) (fun env => by rfl) (fun s1 t1 u1 F1 e1 x1 d1 z1 => ?_)
  refine lim_step (x := x) (dx := dx) O hs' rfl rfl rfl rfl (by decide +kernel) (by decide +kernel) hdn hdL hxd F1 x1 d1 (by rfl) z1 (by decide) (fun P => by kernel_rfl) (fun env => by rfl) (fun s2 t2 u2 F2 e2 x2 d2 z2 => ?_)
  refine lim_step (x := x) (dx := dx) O hs' rfl rfl rfl rfl (by decide +kernel) (by decide +kernel) hdn hdL hxd F2 x2 d2 (by rfl) z2 (by decide) (fun P => by kernel_rfl) (fun env => by rfl) (fun s3 t3 u3 F3 e3 x3 d3 z3 => ?_)
  refine lim_step (x := x) (dx := dx) O hs' rfl rfl rfl rfl (by decide +kernel) (by decide +kernel) hdn hdL hxd F3 x3 d3 (by rfl) z3 (by decide) (fun P => by kernel_rfl) (fun env => by rfl) (fun s4 t4 u4 F4 e4 x4 d4 z4 => ?_)
  refine lim_step (x := x) (dx := dx) O hs' rfl rfl rfl rfl (by decide +kernel) (by decide +kernel) hdn hdL hxd F4 x4 d4 (by rfl) z4 (by decide) (fun P => by kernel_rfl) (fun env => by rfl) (fun s5 t5 u5 F5 e5 x5 d5 z5 => ?_)
  refine lim_step (x := x) (dx := dx) O hs' rfl rfl rfl rfl (by decide +kernel) (by decide +kernel) hdn hdL hxd F5 x5 d5 (by rfl) z5 (by decide) (fun P => by kernel_rfl) (fun env => by rfl) (fun s6 t6 u6 F6 e6 x6 d6 z6 => ?_)
  refine lim_step (x := x) (dx := dx) O hs' rfl rfl rfl rfl (by decide +kernel) (by decide +kernel) hdn hdL hxd F6 x6 d6 (by rfl) z6 (by decide) (fun P => by kernel_rfl) (fun env => by rfl) (fun s7 t7 u7 F7 e7 x7 d7 z7 => ?_)
  refine lim_step (x := x) (dx := dx) O hs' rfl rfl rfl rfl (by decide +kernel) (by decide +kernel) hdn hdL hxd F7 x7 d7 (by rfl) z7 (by decide) (fun P => by kernel_rfl) (fun env => by rfl) (fun s8 t8 u8 F8 e8 x8 d8 z8 => ?_)
  refine wpAny_execs_nil ?_
  obtain ⟨h', tk', rfl⟩ := (Same.mk' (s := s) (h := h₁) (t := tk)).trans (e1.trans (e2.trans (e3.trans (e4.trans (e5.trans (e6.trans (e7.trans e8)))))))
  exact hq h' tk' F8.keep ⟨dx, _, _, _, _, _, _, x8, d8, by rfl, by rfl, by rfl, by rfl⟩
end Mine
end
section
open PySem PySem.W PySem.Calls PyProof.Rows
set_option Elab.async false
set_option maxRecDepth 100000
set_option linter.unusedVariables false
namespace Mine
/-- arguments whose values are told by a predicate -/
structure EvsP (c : Cx) (ρ : List (Str × D)) (es : List Expr) (P : Heap → List Value → Prop) : Prop where
  go : c.Ok → ∀ (s : Shared) (pos : Pos) (Q : List Value → Shared → Prop) (E : Value → Shared → Prop), Fm c ρ s.heap →
    (∀ vs s', Ext s s' → P s'.heap vs → Q vs s') → wpAny c.M c.A (spliced (backTo pos (starEach es c.env))) Q E s
section
variable {c : Cx} {ρ : List (Str × D)}
theorem EvsP.cons {e : Expr} {es : List Expr} {d : D} {P : Heap → List Value → Prop} (h1 : Ev c ρ e (some d)) (h2 : EvsP c ρ es P)
    (he : autoParam (∀ env, starEach (e :: es) env = (false, eval e env) :: starEach es env) aiRfl) : EvsP c ρ (e :: es) (fun h vs => ∃ v vs', vs = v :: vs' ∧ Rd c.g h v d ∧ P h vs') := by
  refine ⟨?_⟩
  intro O s pos Q E F h
  rw [he]
  show wpAny c.M c.A (spliced ((false, eval e c.env) :: backTo pos (starEach es c.env))) Q E s
  refine spliced_cons (h1.go O s _ _ F (fun v s₁ d' hd x r => ?_) (fun e s' hr => by cases hr))
  cases hd
  refine h2.go O s₁ pos _ E (F.ext x.keep) fun vs s₂ x₂ r₂ => ?_
  exact h _ _ (x.trans x₂) ⟨v, vs, rfl, r.keeps x₂.keep, r₂⟩
theorem keep_71 (w : World) (h : Heap) (st : Sta w h) : ∃ k, (k = Keeper.frame ∨ k = Keeper.machine ∨ k = Keeper.boundFrame) ∧ Looks (model P0 w) h (keeperOf (.ref 71)) k := by
  rcases looks_keep (K := Ks w.params) (M := model P0 w) (f := .ref 71) (by kernel_rfl) st.inK with ⟨k, hk, l⟩
  exact ⟨k, hk.elim .inl (fun q => .inr (.inl q)), l⟩
theorem tc71_depth {A : Around} {rest : List Value} : (A.under (.builtin "type.__call__" ⟨.ref 71 :: rest, []⟩)).depth = A.depth + 1 := rfl
/-- Limits(wd, 4, 9, 30) -/
theorem lim_call {s : Shared} {wd : Int} {t1 t2 t3 t4 : Tok} {Q E : Value → Shared → Prop} (O : c.Ok) (F : Fm c ρ s.heap) (hn : 2 ≤ c.n) (hQ : ∀ x s', Ext s s' → LimAt s'.heap x wd → Q (.ref x) s') :
    wpAny c.M c.A (call (.ref 71) [.int wd t1, .int 4 t2, .int 9 t3, .int 30 t4]) Q E s := by
  rcases s with ⟨h, g, d, t, os⟩
  have X : (Ks c.w.params).In h := O.sta.inK.keeps F.keep
  have hd := O.depth
  have hu := O.units
  refine wpAny_call (make_core (makes_of X (by kernel_rfl)) (looks_findIn X (r := some (.ref 68)) (by kernel_rfl)) (fun self => bind_fn X self (by kernel_rfl)) (.inl rfl) ?_)
  have kp : Kp h ((h.push emptyDict).push (instObj 71 h.objs.size)) := fun b o e => Heap.get?_push_of_some _ (Heap.get?_push_of_some _ e)
  have hx : ((h.push emptyDict).push (instObj 71 h.objs.size)).get? (h.objs.size + 1) = some (instObj 71 h.objs.size) := by heap_get
  have hdx : ((h.push emptyDict).push (instObj 71 h.objs.size)).get? h.objs.size = some emptyDict := Heap.get?_push_of_some _ (Heap.get?_push_at rfl rfl)
  refine lim_init (base := c.base) (outer := c.fr) (h₀ := h) O.handled (by show c.A.depth + 1 + 1 < _; (first | lia | omega)) (by show c.A.units + 1 + 103 < _; (first | lia | omega)) O.frames (O.funs' F) (fun b o e => F.keep _ _ (O.stays b o e)) (O.sta.keeps F.keep) kp hx hdx (Heap.get?_none_of_le (Nat.le_succ _)) (fresh_size _) fun h' tk k hl => ⟨rfl, ?_⟩
  exact hQ _ _ ⟨k, h', tk, rfl⟩ hl
theorem EvsP.lim {func e1 e2 e3 e4 : Expr} {pos : Pos} {wd : Int} (hf : Ev c ρ func (some (.val (.ref 71)))) (ha : Evs c ρ [e1, e2, e3, e4] [.int wd, .int 4, .int 9, .int 30]) (hn : 2 ≤ c.n)
    (harm : autoParam (∀ env, eval (.Call func [e1, e2, e3, e4] [] pos) env = (do callWith pos (← eval func env) [] (backTo pos (starEach [e1, e2, e3, e4] env)) (backToKw pos (keywordEach [] env)))) aiRfl)
    (hplain : autoParam (∀ env, (backTo pos (starEach [e1, e2, e3, e4] env)).any (·.1) = false) aiRfl)
    (he : autoParam (∀ env, starEach [.Call func [e1, e2, e3, e4] [] pos] env = (false, eval (.Call func [e1, e2, e3, e4] [] pos) env) :: starEach [] env) aiRfl) : EvsP c ρ [.Call func [e1, e2, e3, e4] [] pos] (fun h vs => ∃ x, vs = [.ref x] ∧ LimAt h x wd) := by
  refine ⟨fun O s pos' Q E F hQ => ?_⟩
  rw [he]
  show wpAny c.M c.A (spliced ((false, eval (.Call func [e1, e2, e3, e4] [] pos) c.env) :: backTo pos' (starEach [] c.env))) Q E s
  refine spliced_cons ?_
  rw [harm]
  refine wpAny_bind (hf.go1 O s _ _ F (fun v s₁ x rd => ?_))
  cases rd
  refine callWith_any (hplain _) keep_71 ?_
  refine ha.go O s₁ pos _ E (F.ext x.keep) fun vs s₂ x₂ rs => ⟨O.sta.keeps ((F.ext x.keep).ext x₂.keep).keep, ?_⟩
  have F₂ := (F.ext x.keep).ext x₂.keep
  cases rs with
  | cons r1 rs =>
    cases rs with
    | cons r2 rs =>
      rcases rs.two with ⟨v3, v4, rfl, r3, r4⟩
      cases r1; cases r2; cases r3; cases r4
      refine lim_call O F₂ hn fun y s₃ x₃ hl => ?_
      exact wpAny_pure (hQ _ _ ((x.trans x₂).trans x₃) ⟨y, rfl, hl⟩)
end
end Mine
end
section
open PySem PySem.W PySem.Calls PyProof.Rows
set_option Elab.async false
set_option maxRecDepth 100000
set_option linter.unusedVariables false
namespace Mine
section
variable {c : Cx} {ρ : List (Str × D)} {o : Out}
theorem Fm.kplNs {h h' : Heap} (F : Fm c ρ h) (k : ∀ b o, b ≠ c.env.locals → h.get? b = some o → h'.get? b = some o) (hn : ∀ m, h.Ns c.env.locals m → h'.Ns c.env.locals m) (hnew : c.g.get? c.env.locals = none) : Fm c ρ h' := by
  rcases F.ns with ⟨m, hm, hr⟩
  rcases id hm with ⟨oL, es, ep, hL, hLd, _⟩
  have kd : ∀ b o, h.get? b = some o → (∃ vs n, o.data = .seq vs n) → h'.get? b = some o := fun b o e ⟨ws, n, hq⟩ => k b o (neD e hL hLd hq (fun z => nomatch z)) e
  have kc : ∀ {a v}, h.IsCell a v → h'.IsCell a v := fun ⟨oc, hoc, hcd⟩ => ⟨oc, k _ _ (neD hoc hL hLd hcd (fun z => nomatch z)) hoc, hcd⟩
  refine ⟨⟨m, hn m hm, fun x d hx hc => ?_⟩, fun x d hx hc => ?_, fun b o e => k b o (neN e hnew) (F.keep b o e), fun hc x hx => ?_⟩
  · rcases hr x d hx hc with ⟨v, h1, h2⟩
    exact ⟨v, h1, h2.mono (.refl _) kd⟩
  · rcases F.cl x d hx hc with ⟨a, v, h1, h2, h3⟩
    exact ⟨a, v, h1, kc h2, h3.mono (.refl _) kd⟩
  · rcases F.ce hc x hx with ⟨a, v, h1, h2, h3⟩
    exact ⟨a, v, h1, kc h2, h3⟩
noncomputable
def orElse : Option D → D
  | some d => d
  | none => .none
set_option maxHeartbeats 1000000 in
/-- try: x = f(a1, .., Limits(..)) except RunFault: x = None -/
theorem Exs.tryCall {x : Str} {func : Expr} {args : List Expr} {f : Value} {k : Nat} {ds : List D} {r : Option D} {P : Heap → List Value → Prop} {xp xp' cp ap ap' ep hp tp np : Pos} {nk : Nat} {ns : List (Str × NameKind)} {rest : List Stmt}
    (hs : c.ns = ns) (hcm : c.comp = false) (hout : c.outer = []) (hk : ns.lookup x = some .local) (hrf : ns.lookup (Str.ofString "RunFault") = some .globalImplicit)
    (hf : Ev c ρ func (some (.val f))) (ha : EvsP c ρ args P) (hP : ∀ h vs, Kp c.g h → P h vs → RdAll h h vs ds) (hC : CallAt c.w k f ds r) (hkn : k ≤ c.n)
    (hR : Exs c ((x, orElse r) :: ρ) rest o)
    (harm : autoParam (∀ env, eval (.Call func args [] cp) env = (do callWith cp (← eval func env) [] (backTo cp (starEach args env)) (backToKw cp (keywordEach [] env)))) aiRfl)
    (hplain : autoParam (∀ env, (backTo cp (starEach args env)).any (·.1) = false) aiRfl)
    (hw : autoParam (∀ env, swapsWith (.Call func args [] cp) (some (.Name x xp)) ap.line env = pure false) aiRfl)
    (hw' : autoParam (∀ env, swapsWith (.Constant .none nk np) (some (.Name x xp')) ap'.line env = pure false) aiRfl) :
    Exs c ρ (.Try [.Assign [.Name x xp] (.Call func args [] cp) ap] [.ExceptHandler (some (.Name "RunFault" ep)) none [.Assign [.Name x xp'] (.Constant .none nk np) ap'] hp] [] [] tp :: rest) o := by
  refine ⟨fun O s Q E F hq => ?_⟩
  have hfr : c.A.frames = some [c.env] := by rw [O.frames, O.frEq hcm, hout]
  refine wpAny_execs_cons (wpAny_Try_except ?_)
  refine wpAny_execs_cons (wpAny_Assign_Name ?_ (hw _))
  rw [harm]
  refine wpAny_bind (hf.go1 O s _ _ F (fun v s₁ x₁ rd => ?_))
  cases rd
  have F₁ := F.ext x₁.keep
  refine callWith_any (hplain _) hC.keep ?_
  refine ha.go O s₁ cp _ _ F₁ fun vs s₂ x₂ hv => ⟨O.sta.keeps (F₁.ext x₂.keep).keep, ?_⟩
  have F₂ := F₁.ext x₂.keep
  have k₂ : Kp s.heap s₂.heap := x₁.keep.trans x₂.keep
  have e₂ := x₁.same.trans x₂.same
  rcases id F₂.ns with ⟨mL, hmL, hrL⟩
  rcases id hmL with ⟨oL, esL, epL, hL, hLd, _⟩
  have kB : ∀ b o, b ≠ c.env.locals → s₂.heap.get? b = some o → (hid c.env.locals s₂.heap).get? b = some o := fun b o hb e => hid_get e hb
  have hFF : s₂.heap.FunFrames (hid c.env.locals s₂.heap) [c.env] := by
    refine ⟨by rw [O.kind]; decide, ⟨c.env.locals, oL, O.frame hcm, hideAll_none [c.env.locals] (.head _), hL, fun vs q => by rw [hLd] at q; cases q⟩, trivial⟩
  refine hC.go c.A (hid c.env.locals s₂.heap) [c.env] s₂ vs _ _ O.handled (by have := O.depth; (first | lia | omega)) (by have := O.units; (first | lia | omega)) hfr hFF (fun b o e => (of_hid e).1) (O.sta.keeps F₂.keep) (hP _ _ F₂.keep hv) (fun v s₃ d hr x₃ rd => ?_) (fun e t s₃ hr hfl hu hs₃ => ?_)
  · subst hr
    refine bindName_ok O (F₂.ext x₃.keep) (rd c.g) (hs ▸ hk) fun s₄ kl₄ e₄ F₄ => ?_
    refine wpAny_execs_nil (wpAny_execs_nil ?_)
    exact hR.go O s₄ Q E F₄ (hq.mono ((KpL.of (k₂.trans x₃.keep)).trans kl₄) (e₂.trans (x₃.same.trans e₄)))
  · subst hr
    refine wpAny_looks_onW hfr (O.frame hcm) hfl fun h₄ hh₄ hsm₄ => ?_
    refine wpAny_landsW (s := { s₃ with heap := h₄ }) hh₄ fun h₅ hf₅ hsm₅ => ?_
    have k₅ : ∀ b o, b ≠ c.env.locals → s₂.heap.get? b = some o → h₅.get? b = some o := fun b o hb e => hf₅.1 b o (kB b o hb e)
    have n₅ : ∀ m, s₂.heap.Ns c.env.locals m → h₅.Ns c.env.locals m := fun m hm => hsm₅.ns (hsm₄.ns (hu.ns hm))
    have F₅ := F₂.kplNs k₅ n₅ O.new
    have S₅ := O.sta.keeps F₅.keep
    rcases id S₅.glob with ⟨mg, mb, hg, hb', _⟩
    rcases hf₅.there with ⟨oe, hoe, hoc⟩
    refine wpAny_handleBy_cons (codeAny_handlers_test ?_) (by intro q; cases q)
    refine Name_function_global O.kind (O.kindOf hs hrf) (loadGlobal_global (by rw [O.globals]; exact hg) (mg_of S₅.inK hg (v := .ref 44) (by kernel_rfl)) ?_) (by decide +kernel)
    have hcB : (bm44 : List Value).contains (.type "BaseException") = true := by decide +kernel
    rcases s₃ with ⟨hh₃, g₃, d₃, t₃, os₃⟩
    refine wpAny_excMatches_sub_self (at44 S₅.inK) hoe hoc hcB (codeAny_handlers_suite ?_)
    refine lands_againW (s := ⟨h₅, g₃, d₃, t₃, os₃⟩) hf₅ fun h₆ hf₆ hsm₆ => ?_
    have k₆ : ∀ b o, b ≠ c.env.locals → s₂.heap.get? b = some o → h₆.get? b = some o := fun b o hb e => hf₆.1 b o (kB b o hb e)
    have F₆ := F₂.kplNs k₆ (fun m hm => hsm₆.ns (n₅ m hm)) O.new
    refine wpAny_execs_cons (wpAny_Assign_Name (Constant_none ?_) (hw' _))
    rcases id F₆.ns with ⟨m₆, hm₆, hr₆⟩
    refine wpAny_storeName_local (O.kindOf hs hk) hm₆ (fun h₇ hn₇ hs₇ => ?_) (by rw [O.kind]; rfl)
    obtain ⟨F₇, kl₇⟩ := F₆.store O hm₆ hr₆ (d := .none) .none (hs ▸ hk) hn₇ hs₇
    refine wpAny_execs_nil ?_
    refine hR.go O _ Q E F₇ (hq.mono ?_ ?_)
    · exact fun b o hb hc e => kl₇ b o hb hc (k₆ b o hb (k₂ _ _ e))
    · rcases e₂.trans hs₃ with ⟨h9, t9, e9⟩
      exact ⟨h₇, _, by cases e9; rfl⟩
end
end Mine
end
section
open PySem PySem.W PySem.Calls PyProof.Rows
set_option Elab.async false
set_option maxRecDepth 100000
set_option linter.unusedVariables false
namespace Mine
theorem Itb.tup {w : World} {A : Around} {g : Heap} {src : List D} {a : Addr} {s : Shared} {g₀ : Heap} (hA : A.handled = none) (r : Rd g₀ s.heap (.ref a) (.tup src)) (hg : g = s.heap) (hg₀ : Kp g₀ g) : Itb w A g src (.ref a) s := by
  intro Q E hQ
  subst hg
  cases r with
  | @tup _ ol vs nl _ ho hc hd hrs =>
    have hl : s.heap.IsTuple a vs := ⟨_, ho, hc, _, hd⟩
    have hz := hrs.length
    rw [Array.length_toList] at hz
    have hne : a ≠ s.heap.objs.size := Nat.ne_of_lt (Heap.lt_size ho)
    have kp : Kp s.heap (s.heap.push { cls := .type "tuple_iterator", data := .fields #[.ref a, .int 0 0] }) := fun b o e => Heap.get?_push_of_some _ e
    refine wpAny_pyIter_tuple hl ?_
    refine hQ s.heap.objs.size [s.heap.objs.size, a] [s.heap.objs.size] _ _ _ kp (fun b hb => by rw [List.mem_singleton.mp hb]; exact fresh_size _) (fun b hb => ?_) (hz ▸ Walks.tuple hA _ _ hne vs) ⟨⟨_, Heap.get?_push_size _ rfl, rfl, rfl⟩, ⟨_, kp _ _ ho, hc, _, hd⟩⟩ (fun i h b o st hb e ws nn hq => ?_) ?_
    · rw [Heap.size_push]
      obtain rfl | hb := List.mem_cons.mp hb
      · exact Nat.lt_succ_self _
      · rw [List.mem_singleton.mp hb]; exact Nat.lt_succ_of_lt (Heap.lt_size ho)
    · rcases st with ⟨⟨o', ho', _, hd'⟩, _⟩
      rw [List.mem_singleton.mp hb, ho'] at e
      cases e
      rw [hd'] at hq; cases hq
    · intro i v d hP hd h'' k
      rcases hrs.get hd with ⟨v', hv', rv⟩
      rw [Array.getElem?_toList] at hv'
      have hP : vs[i]? = some v := hP
      rw [hP] at hv'; cases hv'
      exact (rv.keeps k).mono hg₀ fun _ _ e _ => e
theorem IterEv.tup {c : Cx} {ρ : List (Str × D)} {e : Expr} {src : List D} (h : Ev c ρ e (some (.tup src))) : IterEv c ρ e src := by
  refine ⟨fun O s Q E F hQ => h.go O s Q E F (fun v s' d hd x r => ?_) fun _ _ hr => by cases hr⟩
  cases hd
  rcases Rd.tup_inv r with ⟨_, _, _, _, hve0, ho, hc, hd, hrs⟩
  first | subst hve0 | obtain ⟨⟩ := hve0
  case _ => exact hQ _ s' s'.heap x.keep (.refl _) x.same (Itb.tup O.handled (.tup ho hc hd hrs) rfl (fun b o e => x.keep _ _ (F.keep _ _ e)))
theorem Ev.tabLst {c : Cx} {ρ : List (Str × D)} {e : Expr} {is : List Int} (h : Ev c ρ e (some (.tab (IntsAt is)))) : Ev c ρ e (some (.lst (is.map D.int))) := by
  refine ⟨fun O s Q E F hQ _ => h.go O s Q E F (fun v s' d hd x r => ?_) fun _ _ hr => by cases hr⟩
  cases hd
  cases r with
  | tab _ y =>
    rcases y with ⟨o, vs, n, h1, h2, h3, h4⟩
    exact hQ _ _ _ rfl x (.lst ((F.ext x.keep).keep _ _ h1) h2 h3 (Rd.ints h4 _ _))
theorem Tr.withOk {c : Cx} {ρ : List (Str × D)} {e : Expr} {b : Bool} (h : c.Ok → Tr c ρ e b) : Tr c ρ e b := ⟨fun O => (h O).go O⟩
end Mine
end
section
open PySem PySem.W PySem.Calls PyProof.Rows
set_option Elab.async false
set_option maxRecDepth 100000
set_option linter.unusedVariables false
namespace Mine
section
variable {c : Cx} {ρ ρ' ρ1 : List (Str × D)} {o : Out}
theorem Exs.app {a b : List Stmt} (h1 : Exs c ρ a (.next ρ')) (h2 : Exs c ρ' b o) : Exs c ρ (a ++ b) o := by
  refine ⟨fun O s Q E F h => wpAny_execs_app (h1.go O s _ E F ⟨fun ρ'' s' ho k hs F' => ?_, fun _ _ _ ho => (nomatch ho), fun _ _ ho => (nomatch ho)⟩)⟩
  cases ho
  exact h2.go O s' Q E F' (h.mono k hs)
theorem Exs.nilS0 {b : List Stmt} (h : Sub ρ ρ') : Exs c ρ [] (.next ρ') := ⟨fun O s Q E F hq => wpAny_execs_nil (hq.1 ρ' s rfl (.refl _ _) (.refl _) (F.sub h))⟩
theorem Exs.toSub {b : List Stmt} (h : Exs c ρ b (.next ρ1)) (hs : Sub ρ1 ρ') : Exs c ρ b (.next ρ') := by
  refine ⟨fun O s Q E F hq => h.go O s Q E F ⟨fun ρ'' s' ho k e F' => ?_, fun _ _ _ ho => (nomatch ho), fun _ _ ho => (nomatch ho)⟩⟩
  cases ho
  exact hq.1 ρ' s' rfl k e (F'.sub hs)
/-- an if without else: both ways meet -/
theorem Exs.ifJoin {t : Expr} {b rest : List Stmt} {pos : Pos} {p : Bool} (ρ' : List (Str × D)) (ht : Tr c ρ t p) (h1 : p = true → ∃ ρ1, Exs c ρ b (.next ρ1) ∧ Sub ρ1 ρ') (h2 : p = false → Sub ρ ρ') (hr : Exs c ρ' rest o) : Exs c ρ (.If t b [] pos :: rest) o := by
  refine Exs.app (a := [.If t b [] pos]) (ρ' := ρ') (Exs.if_ ht (fun h => ?_) (fun h => ?_)) hr
  · rcases h1 h with ⟨ρ1, hb, hs⟩
    rw [List.append_nil]
    exact hb.toSub hs
  · exact Exs.nilS0 (b := []) (h2 h)
end
end Mine
end
end
section
set_option Elab.async false
set_option linter.unusedVariables false
namespace Mine
/-- the number of decimal digits -/
noncomputable
def cd (n : Nat) : Nat := if h : n = 0 then 0 else cd (n / 10) + 1
decreasing_by (first | lia | omega)
theorem cd_zero : cd 0 = 0 := by rw [cd]; rfl
theorem cd_step {n : Nat} (h : n ≠ 0) : cd n = cd (n / 10) + 1 := by rw [cd, dif_neg h]
theorem cd_bounds : ∀ (k n : Nat), n < k → n ≠ 0 → 10 ^ (cd n - 1) ≤ n ∧ n < 10 ^ cd n ∧ 0 < cd n
  | 0, n, h, _ => by (first | lia | omega)
  | k + 1, n, h, h0 => by
    rw [cd_step h0]
    by_cases q : n / 10 = 0
    · rw [q, cd_zero]
      refine ⟨?_, ?_, by (first | lia | omega)⟩
      · show 10 ^ 0 ≤ n; (clear q h; lia)
      · show n < 10 ^ (0 + 1); (first | lia | omega)
    · obtain ⟨h1, h2, h3⟩ := cd_bounds k (n / 10) (by (first | lia | omega)) q
      obtain ⟨j, hj⟩ : ∃ j, cd (n / 10) = j + 1 := ⟨cd (n / 10) - 1, by (first | lia | omega)⟩
      rw [hj] at h1 h2 ⊢
      rw [Nat.add_sub_cancel] at h1 ⊢
      simp only [Nat.pow_succ] at h2 ⊢
      generalize 10 ^ j = p at h1 h2 ⊢
      (first | lia | omega)
theorem lt_cd (n : Nat) : n < 10 ^ cd n := by
  by_cases h : n = 0
  · rw [h, cd_zero]; decide
  · exact (cd_bounds (n + 1) n (by (first | lia | omega)) h).2.1
theorem cd_le {n : Nat} (h : n ≠ 0) : 10 ^ (cd n - 1) ≤ n := (cd_bounds (n + 1) n (by (first | lia | omega)) h).1
theorem cd_pos {n : Nat} (h : n ≠ 0) : 0 < cd n := (cd_bounds (n + 1) n (by (first | lia | omega)) h).2.2
theorem pow_lt {a b : Nat} (h : 10 ^ a < 10 ^ b) : a < b := (Nat.pow_lt_pow_iff_right (by decide)).mp h
theorem pow_pos10 (k : Nat) : 0 < 10 ^ k := Nat.pow_pos (by decide)
theorem cd_le_of {n k : Nat} (h : n < 10 ^ k) : cd n ≤ k := by
  by_cases h0 : n = 0
  · rw [h0, cd_zero]; (first | lia | omega)
  · have := pow_lt (Nat.lt_of_le_of_lt (cd_le h0) h)
    have := cd_pos h0
    (first | lia | omega)
theorem lt_cd_of {n k : Nat} (h : 10 ^ k ≤ n) : k < cd n := pow_lt (Nat.lt_of_le_of_lt h (lt_cd n))
theorem cd_eq {n k : Nat} (h1 : 10 ^ k ≤ n) (h2 : n < 10 ^ (k + 1)) : cd n = k + 1 := by
  have := cd_le_of h2
  have := lt_cd_of h1
  (first | lia | omega)
theorem cd_mono {a b : Nat} (h : a ≤ b) : cd a ≤ cd b := cd_le_of (Nat.lt_of_le_of_lt h (lt_cd b))
theorem cd_mul10 {n : Nat} (h : n ≠ 0) : cd (n * 10) = cd n + 1 := by
  rw [cd_step (by (first | lia | omega)), Nat.mul_div_cancel _ (by decide)]
theorem cd_mulpow {n : Nat} (h : n ≠ 0) : ∀ k, cd (n * 10 ^ k) = cd n + k
  | 0 => by simp
  | k + 1 => by
    have := cd_mulpow h k
    rw [Nat.pow_succ, ← Nat.mul_assoc, cd_mul10 (Nat.mul_ne_zero h (Nat.ne_of_gt (pow_pos10 k))), this]
    (first | lia | omega)
theorem cd_nine {n : Nat} (h : 1000000000 ≤ n) : cd n = cd (n / 1000000000) + 9 := by
  rw [cd_step (by (first | lia | omega)), cd_step (n := n / 10) (by (first | lia | omega))]
  rw [Nat.div_div_eq_div_mul, cd_step (n := n / (10 * 10)) (by (first | lia | omega)), Nat.div_div_eq_div_mul, cd_step (n := n / (10 * 10 * 10)) (by (first | lia | omega)), Nat.div_div_eq_div_mul, cd_step (n := n / (10 * 10 * 10 * 10)) (by (first | lia | omega)), Nat.div_div_eq_div_mul]
  rw [cd_step (n := n / (10 * 10 * 10 * 10 * 10)) (by (first | lia | omega)), Nat.div_div_eq_div_mul, cd_step (n := n / (10 * 10 * 10 * 10 * 10 * 10)) (by (first | lia | omega)), Nat.div_div_eq_div_mul, cd_step (n := n / (10 * 10 * 10 * 10 * 10 * 10 * 10)) (by (first | lia | omega)), Nat.div_div_eq_div_mul]
  rw [cd_step (n := n / (10 * 10 * 10 * 10 * 10 * 10 * 10 * 10)) (by (first | lia | omega)), Nat.div_div_eq_div_mul]
/-- the zeros at the end struck -/
noncomputable
def stripF : Nat → Int → Int → Int × Int
  | 0, m, e => (m, e)
  | f + 1, m, e => if m.fmod 10 == 0 then stripF f (m.fdiv 10) (e + 1) else (m, e)
noncomputable
def strip (m e : Int) : Int × Int := if m == 0 then (0, 0) else stripF m.natAbs m e
theorem stripF_fuel : ∀ (f g : Nat) (m e : Int), m.natAbs ≤ f → m.natAbs ≤ g → m ≠ 0 → stripF f m e = stripF g m e
  | 0, g, m, e, h1, h2, h3 => by (first | lia | omega)
  | f + 1, 0, m, e, h1, h2, h3 => by (clear h1; lia)
  | f + 1, g + 1, m, e, h1, h2, h3 => by
    unfold stripF
    by_cases q : (m.fmod 10 == 0) = true
    · rw [if_pos q, if_pos q]
      have q' : m.fmod 10 = 0 := by simpa using q
      rw [Int.fmod_eq_emod_of_nonneg m (by decide)] at q'
      rw [Int.fdiv_eq_ediv_of_nonneg m (by decide)]
      exact stripF_fuel f g _ _ (by (clear q h3 h2; omega)) (by (clear q h3 h1; omega)) (by (clear q h2 h1; lia))
    · rw [if_neg q, if_neg q]
theorem stripF_step {f : Nat} {m e : Int} (h : m.fmod 10 = 0) (hm : m ≠ 0) (hf : m.natAbs ≤ f) : stripF f m e = stripF (m.fdiv 10).natAbs (m.fdiv 10) (e + 1) := by
  cases f with
  | zero => omega
  | succ f =>
    rw [stripF, if_pos (by simpa using h)]
    rw [Int.fmod_eq_emod_of_nonneg m (by decide)] at h
    rw [Int.fdiv_eq_ediv_of_nonneg m (by decide)]
    exact stripF_fuel _ _ _ _ (by omega) (Nat.le_refl _) (by (first | lia | omega))
theorem stripF_end {f : Nat} {m e : Int} (h : m.fmod 10 ≠ 0) : stripF f m e = (m, e) := by
  cases f with
  | zero => rfl
  | succ f => rw [stripF, if_neg (by simpa using h)]
theorem strip_zero (e : Int) : strip 0 e = (0, 0) := rfl
theorem strip_ne {m e : Int} (h : m ≠ 0) : strip m e = stripF m.natAbs m e := by rw [strip, if_neg (by simpa using h)]
theorem strip_end {m e : Int} (h : m % 10 ≠ 0) : strip m e = (m, e) := by
  rw [strip_ne (by (first | lia | omega)), stripF_end (by rw [Int.fmod_eq_emod_of_nonneg m (by decide)]; exact h)]
theorem strip_mul10 {m e : Int} (h : m ≠ 0) : strip (m * 10) e = strip m (e + 1) := by
  rw [strip_ne (by (first | lia | omega)), strip_ne h]
  have h1 : (m * 10).fmod 10 = 0 := by rw [Int.fmod_eq_emod_of_nonneg _ (by decide)]; (first | lia | omega)
  have h2 : (m * 10).fdiv 10 = m := by rw [Int.fdiv_eq_ediv_of_nonneg _ (by decide)]; (clear h1 h; lia)
  rw [stripF_step h1 (by (first | lia | omega)) (Nat.le_refl _), h2]
theorem strip_mulpow {m : Int} (h : m ≠ 0) : ∀ (k : Nat) (e : Int), strip (m * 10 ^ k) e = strip m (e + k)
  | 0, e => by simp
  | k + 1, e => by
    have h10 : m * 10 ^ k ≠ 0 := Int.mul_ne_zero h (by exact Int.pow_ne_zero (by decide))
    rw [Int.pow_succ, ← Int.mul_assoc, strip_mul10 h10, strip_mulpow h k]
    rw [show e + 1 + (k : Int) = e + ((k + 1 : Nat) : Int) by (first | lia | omega)]
/-- what is struck: m = m' * 10 ^ j -/
theorem strip_spec : ∀ (f : Nat) {m e : Int}, m.natAbs ≤ f → m ≠ 0 → ∃ (a : Int) (j : Nat), strip m e = (a, e + j) ∧ m = a * 10 ^ j ∧ a % 10 ≠ 0
  | 0, m, e, h, h0 => by omega
  | f + 1, m, e, h, h0 => by
    by_cases q : m % 10 = 0
    · obtain ⟨a, j, h1, h2, h3⟩ := strip_spec f (m := m / 10) (e := e + 1) (by (clear h0; omega)) (by (first | lia | omega))
      have hm : m = m / 10 * 10 := by (first | lia | omega)
      refine ⟨a, j + 1, ?_, ?_, h3⟩
      · rw [hm, strip_mul10 (by (clear hm h3 h2 h1 h; lia)), h1, show e + 1 + (j : Int) = e + ((j + 1 : Nat) : Int) by (first | lia | omega)]
      · rw [Int.pow_succ, ← Int.mul_assoc, ← h2]; exact hm
    · exact ⟨m, 0, by rw [strip_end q]; simp, by simp, q⟩
theorem strip_of {m e : Int} (h : m ≠ 0) : ∃ (a : Int) (j : Nat), strip m e = (a, e + j) ∧ m = a * 10 ^ j ∧ a % 10 ≠ 0 := strip_spec m.natAbs (Nat.le_refl _) h
theorem strip_neg {m e : Int} : strip (-m) e = (-(strip m e).1, (strip m e).2) := by
  by_cases h : m = 0
  · subst h; rfl
  · obtain ⟨a, j, h1, h2, h3⟩ := strip_of (e := e) h
    rw [h1]
    have : -m = -a * 10 ^ j := by rw [h2, Int.neg_mul]
    rw [this, strip_mulpow (by (first | lia | omega)), strip_end (by (first | lia | omega))]
end Mine
end
section
set_option Elab.async false
set_option linter.unusedVariables false
namespace Mine
/-- N / p, rounded half to even -/
noncomputable
def up (N p : Nat) : Nat := if p < 2 * (N % p) ∨ (2 * (N % p) = p ∧ (N / p) % 2 = 1) then N / p + 1 else N / p
noncomputable
def sg (m : Int) (k : Nat) : Int := if 0 < m then (k : Int) else -(k : Int)
noncomputable
def roundD (m e : Int) (d : Nat) : Int × Int := strip (sg m (up m.natAbs (10 ^ (cd m.natAbs - d)))) (e + (cd m.natAbs - d : Nat))
theorem up_scale {N p q : Nat} (hq : 0 < q) : up (N * q) (p * q) = up N p := by
  unfold up
  rw [Nat.mul_div_mul_right _ _ hq, Nat.mul_mod_mul_right]
  have h1 : p * q < 2 * (N % p * q) ↔ p < 2 * (N % p) := by rw [← Nat.mul_assoc]; exact Nat.mul_lt_mul_right hq
  have h2 : 2 * (N % p * q) = p * q ↔ 2 * (N % p) = p := by rw [← Nat.mul_assoc]; exact Nat.mul_left_inj (Nat.ne_of_gt hq)
  simp only [h1, h2]
theorem up_exact {N p : Nat} (hp : 0 < p) : up (N * p) p = N := by
  unfold up
  rw [Nat.mul_mod_left, Nat.mul_div_cancel _ hp, if_neg (by (first | lia | omega))]
theorem up_one {N : Nat} : up N 1 = N := by have := up_exact (N := N) (p := 1) (by decide); rwa [Nat.mul_one] at this
theorem sg_self {m : Int} : sg m m.natAbs = m := by unfold sg; split <;> (first | lia | omega)
theorem natAbs_mulpow {m : Int} {k : Nat} : (m * 10 ^ k).natAbs = m.natAbs * 10 ^ k := by
  rw [Int.natAbs_mul, Int.natAbs_pow]; rfl
theorem pow10_pos (k : Nat) : (0 : Int) < 10 ^ k := Int.pow_pos (by decide)
theorem sg_mulpow {m : Int} {k j : Nat} : sg (m * 10 ^ k) j = sg m j := by
  unfold sg
  by_cases h : 0 < m
  · rw [if_pos h, if_pos (Int.mul_pos h (pow10_pos k))]
  · rw [if_neg h, if_neg (by have := Int.mul_nonneg (show 0 ≤ -m by (first | lia | omega)) (Int.le_of_lt (pow10_pos k)); rw [Int.neg_mul] at this; (first | lia | omega))]
theorem roundD_zero {e : Int} {d : Nat} : roundD 0 e d = (0, 0) := by
  unfold roundD
  rw [show (0 : Int).natAbs = 0 from rfl, cd_zero, Nat.zero_sub, Nat.pow_zero, up_one]
  rfl
theorem roundD_small {m e : Int} {d : Nat} (h : cd m.natAbs ≤ d) : roundD m e d = strip m e := by
  unfold roundD
  rw [Nat.sub_eq_zero_of_le h, Nat.pow_zero, up_one, sg_self]
  simp
theorem sg_cast_mul {m : Int} {k j : Nat} : sg m (k * 10 ^ j) = sg m k * 10 ^ j := by
  unfold sg
  have : ((k * 10 ^ j : Nat) : Int) = (k : Int) * 10 ^ j := by rw [Int.natCast_mul, Int.natCast_pow]; rfl
  split
  · exact this
  · rw [this, Int.neg_mul]
theorem roundD_scale {m e : Int} {d k : Nat} : roundD (m * 10 ^ k) (e - k) d = roundD m e d := by
  by_cases h0 : m = 0
  · subst h0; rw [Int.zero_mul, roundD_zero, roundD_zero]
  have hN : m.natAbs ≠ 0 := by (first | lia | omega)
  by_cases hc : d ≤ cd m.natAbs
  · unfold roundD
    rw [natAbs_mulpow, cd_mulpow hN, sg_mulpow, show cd m.natAbs + k - d = (cd m.natAbs - d) + k by (first | lia | omega), Nat.pow_add, up_scale (pow_pos10 k)]
    rw [show e - (k : Int) + ((cd m.natAbs - d + k : Nat) : Int) = e + ((cd m.natAbs - d : Nat) : Int) by (first | lia | omega)]
  · rw [roundD_small (m := m) (by (first | lia | omega))]
    unfold roundD
    rw [natAbs_mulpow, cd_mulpow hN, sg_mulpow]
    generalize hj : cd m.natAbs + k - d = j
    have hjk : j ≤ k := by omega
    have : m.natAbs * 10 ^ k = m.natAbs * 10 ^ (k - j) * 10 ^ j := by rw [Nat.mul_assoc, ← Nat.pow_add, Nat.sub_add_cancel hjk]
    rw [this, up_exact (pow_pos10 j), sg_cast_mul, sg_self, strip_mulpow h0]
    rw [show e - (k : Int) + (j : Int) + ((k - j : Nat) : Int) = e by omega]
theorem roundD_neg {m e : Int} {d : Nat} : roundD (-m) e d = (-(roundD m e d).1, (roundD m e d).2) := by
  unfold roundD
  rw [Int.natAbs_neg, ← strip_neg]
  by_cases h : m = 0
  · subst h; rw [show (0 : Int).natAbs = 0 from rfl, cd_zero, Nat.zero_sub, Nat.pow_zero, up_one]; rfl
  · have : ∀ k, sg (-m) k = -sg m k := by intro k; unfold sg; split <;> split <;> (first | lia | omega)
    rw [this]
/-- a number in whole units of 10 ** -40 -/
noncomputable
def FX (x : Int × Int) : Int := x.1 * 10 ^ (x.2 + 40).toNat
/-- the law's rounding -/
noncomputable
def told (n : Int) (d : Nat) : Int × Int := roundD n (-40) d
theorem told_scale {m e : Int} {d : Nat} (h : -40 ≤ e) : told (m * 10 ^ (e + 40).toNat) d = roundD m e d := by
  unfold told
  have := roundD_scale (m := m) (e := e) (d := d) (k := (e + 40).toNat)
  rwa [show e - ((e + 40).toNat : Int) = -40 by (first | lia | omega)] at this
theorem told_FX {x : Int × Int} {d : Nat} (h : -40 ≤ x.2) : told (FX x) d = roundD x.1 x.2 d := told_scale h
theorem up_le {N p : Nat} : up N p ≤ N / p + 1 ∧ N / p ≤ up N p := by unfold up; split <;> (first | lia | omega)
theorem strip_cd {m e : Int} (h : m ≠ 0) : (strip m e).1 % 10 ≠ 0 ∧ e ≤ (strip m e).2 ∧ ((cd (strip m e).1.natAbs : Int) + (strip m e).2 = cd m.natAbs + e) := by
  obtain ⟨a, j, h1, h2, h3⟩ := strip_of (e := e) h
  rw [h1]
  refine ⟨h3, by dsimp only; (first | lia | omega), ?_⟩
  dsimp only
  rw [h2, natAbs_mulpow, cd_mulpow (by (first | lia | omega))]
  (first | lia | omega)
theorem roundD_spec {m e : Int} {d : Nat} (h : m ≠ 0) (hd : 1 ≤ d) : (roundD m e d).1 % 10 ≠ 0 ∧ cd (roundD m e d).1.natAbs ≤ d ∧ e ≤ (roundD m e d).2 ∧
    ((cd m.natAbs : Int) + e ≤ cd (roundD m e d).1.natAbs + (roundD m e d).2) ∧ ((cd (roundD m e d).1.natAbs : Int) + (roundD m e d).2 ≤ cd m.natAbs + e + 1) := by
  have hN : m.natAbs ≠ 0 := by (first | lia | omega)
  by_cases hc : cd m.natAbs ≤ d
  · rw [roundD_small hc]
    obtain ⟨h1, h2, h3⟩ := strip_cd (e := e) h
    exact ⟨h1, by (first | lia | omega), h2, by (first | lia | omega), by (first | lia | omega)⟩
  · unfold roundD
    generalize hN' : m.natAbs = N at *
    generalize ha : cd N - d = a
    have hcN : cd N = d + a := by (first | lia | omega)
    have b1 := cd_le hN
    have b2 := lt_cd N
    rw [hcN] at b1 b2
    have hp := pow_pos10 a
    have q1 : 10 ^ (d - 1) ≤ N / 10 ^ a := by
      rw [Nat.le_div_iff_mul_le hp, ← Nat.pow_add, show d - 1 + a = d + a - 1 by (clear hp b2 b1 hcN ha hc hN hN' h; lia)]; exact b1
    have q2 : N / 10 ^ a < 10 ^ d := by
      rw [Nat.div_lt_iff_lt_mul hp, ← Nat.pow_add]; exact b2
    obtain ⟨u1, u2⟩ := up_le (N := N) (p := 10 ^ a)
    generalize up N (10 ^ a) = K at u1 u2
    have k1 : 10 ^ (d - 1) ≤ K := Nat.le_trans q1 u2
    have k2 : K ≤ 10 ^ d := by (clear k1 u2 q1 hp b2 b1 hcN ha hc hN hN' hd h; lia)
    have k0 : 0 < K := Nat.lt_of_lt_of_le (pow_pos10 _) k1
    have hsK : (sg m K).natAbs = K := by unfold sg; split <;> (first | lia | omega)
    have hs0 : sg m K ≠ 0 := by (first | lia | omega)
    obtain ⟨x, j, h1, h2, h3⟩ := strip_of (e := e + (a : Int)) hs0
    obtain ⟨s1, s2, s3⟩ := strip_cd (e := e + (a : Int)) hs0
    rw [hsK] at s3
    have c1 : d ≤ cd K := by have := lt_cd_of k1; (first | lia | omega)
    have c2 : cd K ≤ d + 1 := by
      have : K < 10 ^ (d + 1) := by rw [Nat.pow_succ]; (clear c1 s3 s2 s1 h3 h2 h1 hs0 hsK k2 k1 u2 q1 hp b2 b1 hcN ha hc hN hN' hd h; lia)
      exact cd_le_of this
    refine ⟨s1, ?_, by (clear c2 c1 s3 s1 h3 h2 h1 hs0 hsK k0 k2 k1 u2 u1 q2 q1 hp b2 b1 hcN ha hc hN hN' hd h; lia), by (first | lia | omega), by (first | lia | omega)⟩
    by_cases q : K < 10 ^ d
    · have := cd_le_of q
      rw [h1] at s3 ⊢
      dsimp only at s3 ⊢
      (clear q c2 c1 s2 s1 h3 h2 h1 hs0 hsK k0 k2 k1 u2 u1 q2 q1 hp b2 b1 hcN ha hc hN hN' hd h; lia)
    · have hK : K = 10 ^ d := by (first | lia | omega)
      rw [h1] at s3 ⊢
      dsimp only at s3 ⊢
      have e1 : x.natAbs * 10 ^ j = 10 ^ d := by rw [← natAbs_mulpow, ← h2, hsK, hK]
      by_cases hj : d ≤ j
      · (first | lia | omega)
      · exfalso
        have : (10 : Nat) ^ d = 10 ^ (d - j - 1) * 10 * 10 ^ j := by rw [← Nat.pow_succ, ← Nat.pow_add, show d - j - 1 + 1 + j = d by (clear e1 hK q c2 c1 s3 s2 s1 h3 h2 h1 hs0 hsK k0 k2 k1 u2 u1 q2 q1 hp b2 b1 hcN ha hc hN hN' hd h; omega)]
        rw [this] at e1
        have := Nat.eq_of_mul_eq_mul_right (pow_pos10 j) e1
        (clear hj e1 hK q c2 c1 s3 s2 s1 h2 h1 hs0 hsK k0 k2 k1 u2 u1 q2 q1 hp b2 b1 hcN ha hc hN hN' hd h; lia)
end Mine
end
section
open PySem PySem.W PySem.Calls PyProof.Rows
set_option Elab.async false
set_option maxRecDepth 100000
set_option linter.unusedVariables false
set_option linter.unusedSimpArgs false
namespace Mine
open PySem.NumText
theorem slice_idx (l u : Option Int) (n a b : Nat) (ha : max 0 (min (l.getD 0) (n : Int)) = (a : Int)) (hl : 0 ≤ l.getD 0) (hb : max 0 (min (u.getD (n : Int)) (n : Int)) = (b : Int)) (hu : 0 ≤ u.getD (n : Int)) :
    Builtin.Str.strSliceIndices l u 1 n = Builtin.Str.strSliceIndices (some (a : Int)) (some (b : Int)) 1 n := by
  have ha' : a ≤ n := by (first | lia | omega)
  have hb' : b ≤ n := by (first | lia | omega)
  have h1 : ¬ ((a : Int) < 0) := by (first | lia | omega)
  have h2 : ¬ ((b : Int) < 0) := by (first | lia | omega)
  have e1 : max (0 : Int) (min (a : Int) (n : Int)) = a := by (first | lia | omega)
  have e2 : max (0 : Int) (min (b : Int) (n : Int)) = b := by (first | lia | omega)
  have e0 : max (0 : Int) (min 0 (n : Int)) = 0 := by (first | lia | omega)
  have h0 : ¬ ((0 : Int) < 0) := by (first | lia | omega)
  cases l with
  | none =>
    have : a = 0 := by simp at ha; (first | lia | omega)
    cases u with
    | none =>
      have : b = n := by simp at hb; (first | lia | omega)
      subst b; subst a
      simp [Builtin.Str.strSliceIndices, h1, h2, e0, e1, e2]
    | some u =>
      have h3 : ¬ (u < 0) := by simp at hu; (first | lia | omega)
      have e3 : max (0 : Int) (min u (n : Int)) = b := by simpa using hb
      subst a
      simp [Builtin.Str.strSliceIndices, h1, h2, h3, e0, e3, e2]
  | some l =>
    have h4 : ¬ (l < 0) := by simp at hl; (first | lia | omega)
    have e4 : max (0 : Int) (min l (n : Int)) = a := by simpa using ha
    cases u with
    | none =>
      have : b = n := by simp at hb; (first | lia | omega)
      subst b
      simp [Builtin.Str.strSliceIndices, h1, h2, h4, e4, e1, e2]
    | some u =>
      have h3 : ¬ (u < 0) := by simp at hu; (first | lia | omega)
      have e3 : max (0 : Int) (min u (n : Int)) = b := by simpa using hb
      simp [Builtin.Str.strSliceIndices, h1, h2, h3, e3, e2, h4, e4, e1]
theorem slice_list (x : Str) (l u : Option Int) (a b : Nat) (ha : max 0 (min (l.getD 0) (x.length : Int)) = (a : Int)) (hl : 0 ≤ l.getD 0) (hb : max 0 (min (u.getD (x.length : Int)) (x.length : Int)) = (b : Int)) (hu : 0 ≤ u.getD (x.length : Int)) (hab : a ≤ b) :
    (Txt.slice x l u).cps.toList = (x.cps.toList.drop a).take (b - a) := by
  have hb' : b ≤ x.length := by (first | lia | omega)
  have hx : x.cps.toList.length = x.length := by simp [Str.length]
  unfold Txt.slice
  rw [slice_idx l u x.length a b ha hl hb hu]
  split
  · rename_i h
    rw [StrLaws.strSliceIndices_plain hab hb'] at h
    have : b - a = x.length := by simpa using h
    have ha0 : a = 0 := by (first | lia | omega)
    subst ha0
    rw [List.drop_zero, List.take_of_length_le (by (clear h hab ha hb' hu hb hl; lia))]
  · exact StrLaws.sliced_plain x hab hb'
theorem slice_to (x : Str) (d : Nat) : (Txt.slice x none (some (d : Int))).cps.toList = x.cps.toList.take d := by
  rw [slice_list x none (some (d : Int)) 0 (min d x.length) (by simp; (first | lia | omega)) (by simp) (by simp; (first | lia | omega)) (by simp) (by (first | lia | omega))]
  have hx : x.cps.toList.length = x.length := by simp [Str.length]
  rw [List.drop_zero, Nat.sub_zero]
  rw [← List.take_take, List.take_of_length_le (l := x.cps.toList) (by (first | lia | omega))]
theorem slice_from (x : Str) (d : Nat) : (Txt.slice x (some (d : Int)) none).cps.toList = x.cps.toList.drop d := by
  have hx : x.cps.toList.length = x.length := by simp [Str.length]
  rw [slice_list x (some (d : Int)) none (min d x.length) x.length (by simp; (first | lia | omega)) (by simp) (by simp) (by simp) (by (first | lia | omega))]
  by_cases h : d ≤ x.length
  · rw [Nat.min_eq_left h, List.take_of_length_le (by rw [List.length_drop]; (first | lia | omega))]
  · rw [Nat.min_eq_right (by (first | lia | omega)), List.drop_of_length_le (by (first | lia | omega)), List.drop_of_length_le (by (first | lia | omega))]; simp
theorem slice_mid (x : Str) (i j : Nat) (hij : i ≤ j) : (Txt.slice x (some (i : Int)) (some (j : Int))).cps.toList = (x.cps.toList.drop i).take (j - i) := by
  have hx : x.cps.toList.length = x.length := by simp [Str.length]
  rw [slice_list x (some (i : Int)) (some (j : Int)) (min i x.length) (min j x.length) (by simp; (first | lia | omega)) (by simp) (by simp; (first | lia | omega)) (by simp) (by (first | lia | omega))]
  by_cases h : i ≤ x.length
  · rw [Nat.min_eq_left h]
    by_cases h2 : j ≤ x.length
    · rw [Nat.min_eq_left h2]
    · rw [Nat.min_eq_right (by (first | lia | omega)), List.take_of_length_le (by rw [List.length_drop]; (first | lia | omega)), List.take_of_length_le (by rw [List.length_drop]; (first | lia | omega))]
  · rw [List.drop_of_length_le (by (first | lia | omega)), List.drop_of_length_le (by (first | lia | omega))]; simp
/-- the decimal text of a number, as code points -/
noncomputable
def dig (N : Nat) : List Nat := (Nat.toDigits 10 N).map Char.toNat
theorem dVal_append (a b : List Nat) : digitsVal (a ++ b) = digitsVal a * 10 ^ b.length + digitsVal b := by
  have key : ∀ (b : List Nat) (s : Nat), b.foldl (fun acc c => acc * 10 + (c - 48)) s = s * 10 ^ b.length + digitsVal b := by
    intro b
    induction b with
    | nil => intro s; simp [digitsVal]
    | cons c b ih =>
      intro s
      unfold digitsVal
      rw [List.foldl_cons, List.foldl_cons, ih, ih (0 * 10 + (c - 48)), List.length_cons, Nat.pow_succ]
      rw [Nat.add_mul, Nat.mul_assoc, Nat.mul_comm 10, Nat.zero_mul, Nat.zero_add, Nat.add_assoc]
  unfold digitsVal
  rw [List.foldl_append, key]
  rfl
theorem dVal_lt : ∀ (b : List Nat), NumText.AllDigits b → digitsVal b < 10 ^ b.length
  | [], _ => by simp [digitsVal]
  | c :: b, h => by
    have h1 := dVal_lt b h.tail
    have h2 := h.head
    rw [show c :: b = [c] ++ b from rfl, dVal_append, List.length_append, Nat.pow_add]
    have : digitsVal [c] ≤ 9 := by simp [digitsVal]; (first | lia | omega)
    have : ([c] : List Nat).length = 1 := rfl
    rw [this]
    generalize 10 ^ b.length = p at h1 ⊢
    have := Nat.mul_le_mul_right p ‹digitsVal [c] ≤ 9›
    (first | lia | omega)
end Mine
end
section
open PySem PySem.W PySem.Calls PyProof.Rows
set_option Elab.async false
set_option maxRecDepth 100000
set_option linter.unusedVariables false
namespace Mine
open PySem.NumText
theorem dig_length (N : Nat) : (dig N).length = max (cd N) 1 := by
  unfold dig
  rw [List.length_map]
  have key : ∀ k, 0 < k → ((Nat.toDigits 10 N).length ≤ k ↔ N < 10 ^ k) := fun k hk => Nat.length_toDigits_le_iff (by decide) hk
  have h1 : (Nat.toDigits 10 N).length ≤ max (cd N) 1 := (key _ (by (first | lia | omega))).mpr (Nat.lt_of_lt_of_le (lt_cd N) (Nat.pow_le_pow_right (by decide) (by (first | lia | omega))))
  have h2 : 0 < (Nat.toDigits 10 N).length := Nat.length_toDigits_pos
  have h3 : N < 10 ^ (Nat.toDigits 10 N).length := (key _ h2).mp (Nat.le_refl _)
  have h4 := cd_le_of h3
  (first | lia | omega)
theorem dig_all (N : Nat) : AllDigits (dig N) := by
  intro c hc
  obtain ⟨ch, hch, e⟩ := List.mem_map.mp hc
  rw [← e]
  exact digit_range (Nat.isDigit_of_mem_toDigits (by decide) (by decide) hch)
theorem dig_val (N : Nat) : digitsVal (dig N) = N := KIN.val_back N
theorem dig_text (N : Nat) : (Str.ofString (toString (N : Int))).cps.toList = dig N := KIN.signs_num N
theorem dig_take (N k : Nat) (hk : k ≤ (dig N).length) : digitsVal ((dig N).take k) = N / 10 ^ ((dig N).length - k) ∧ digitsVal ((dig N).drop k) = N % 10 ^ ((dig N).length - k) := by
  have h := dVal_append ((dig N).take k) ((dig N).drop k)
  rw [List.take_append_drop, dig_val, List.length_drop] at h
  have h2 := dVal_lt ((dig N).drop k) (fun c hc => dig_all N c (List.mem_of_mem_drop hc))
  rw [List.length_drop] at h2
  generalize digitsVal ((dig N).take k) = a at *
  generalize digitsVal ((dig N).drop k) = b at *
  generalize hp : 10 ^ ((dig N).length - k) = p at *
  constructor
  · rw [h, Nat.mul_comm, Nat.mul_add_div (by (clear h hp hk; lia)), Nat.div_eq_of_lt h2, Nat.add_zero]
  · rw [h, Nat.mul_comm, Nat.mul_add_mod, Nat.mod_eq_of_lt h2]
theorem lex_val : ∀ (a b : List Nat), a.length = b.length → AllDigits a → AllDigits b → ((a < b ↔ digitsVal a < digitsVal b) ∧ (a = b ↔ digitsVal a = digitsVal b))
  | [], [], _, _, _ => by simp [digitsVal]
  | x :: a, y :: b, hl, ha, hb => by
    have hl' : a.length = b.length := by simpa using hl
    obtain ⟨h1, h2⟩ := lex_val a b hl' ha.tail hb.tail
    have e1 : digitsVal (x :: a) = (x - 48) * 10 ^ a.length + digitsVal a := by
      rw [show x :: a = [x] ++ a from rfl, dVal_append]; simp [digitsVal]
    have e2 : digitsVal (y :: b) = (y - 48) * 10 ^ b.length + digitsVal b := by
      rw [show y :: b = [y] ++ b from rfl, dVal_append]; simp [digitsVal]
    have l1 := dVal_lt a ha.tail
    have l2 := dVal_lt b hb.tail
    have r1 := ha.head
    have r2 := hb.head
    rw [e1, e2, ← hl'] at *
    generalize 10 ^ a.length = p at *
    generalize digitsVal a = u at *
    generalize digitsVal b = v at *
    rw [List.cons_lt_cons_iff, List.cons.injEq, h1, h2]
    rcases Nat.lt_trichotomy x y with q | q | q
    · have : (x - 48) * p + p ≤ (y - 48) * p := by rw [← Nat.succ_mul]; exact Nat.mul_le_mul_right p (by (first | lia | omega))
      constructor
      · constructor
        · intro _; (first | lia | omega)
        · intro _; exact .inl q
      · constructor
        · intro h; (first | lia | omega)
        · intro h; (first | lia | omega)
    · subst q
      constructor
      · constructor
        · rintro (h | h)
          · (first | lia | omega)
          · (first | lia | omega)
        · intro h; exact .inr ⟨rfl, by (first | lia | omega)⟩
      · constructor
        · rintro ⟨_, h⟩; (first | lia | omega)
        · intro h; exact ⟨rfl, by (first | lia | omega)⟩
    · have : (y - 48) * p + p ≤ (x - 48) * p := by rw [← Nat.succ_mul]; exact Nat.mul_le_mul_right p (by (clear h2 h1 l2 e2 l1 e1 r1 hl' hl; lia))
      constructor
      · constructor
        · rintro (h | h) <;> (first | lia | omega)
        · intro h; (clear q h2 h1 e2 l1 e1 r2 r1 hl' hl; omega)
      · constructor
        · intro h; (first | lia | omega)
        · intro h; (first | lia | omega)
/-- '5' and zeros -/
noncomputable
def halfL (k : Nat) : List Nat := 53 :: List.replicate (k - 1) 48
theorem halfL_val (k : Nat) (hk : 0 < k) : digitsVal (halfL k) = 5 * 10 ^ (k - 1) ∧ (halfL k).length = k ∧ AllDigits (halfL k) := by
  have hz : ∀ j, digitsVal (List.replicate j 48) = 0 := by
    intro j
    induction j with
    | zero => rfl
    | succ j ih => rw [List.replicate_succ]; exact ih
  refine ⟨?_, by simp [halfL]; (first | lia | omega), ?_⟩
  · unfold halfL
    rw [show (53 :: List.replicate (k - 1) 48 : List Nat) = [53] ++ List.replicate (k - 1) 48 from rfl, dVal_append, hz, List.length_replicate]
    simp [digitsVal]
  · intro c hc
    rcases List.mem_cons.mp hc with rfl | hc
    · decide
    · rw [List.eq_of_mem_replicate hc]; decide
theorem told_cond (N d : Nat) (hd : 1 ≤ d) : ((dig N).drop d ≠ [] ∧ (halfL ((dig N).drop d).length < (dig N).drop d ∨ ((dig N).drop d = halfL ((dig N).drop d).length ∧ digitsVal ((dig N).take d) % 2 = 1))) ↔
    (10 ^ (cd N - d) < 2 * (N % 10 ^ (cd N - d)) ∨ (2 * (N % 10 ^ (cd N - d)) = 10 ^ (cd N - d) ∧ (N / 10 ^ (cd N - d)) % 2 = 1)) := by
  have hL := dig_length N
  by_cases h : (dig N).length ≤ d
  · have e1 : (dig N).drop d = [] := List.drop_of_length_le h
    have e2 : cd N - d = 0 := by (first | lia | omega)
    rw [e1, e2, Nat.pow_zero, Nat.mod_one]
    simp
  · have hLc : (dig N).length = cd N := by (first | lia | omega)
    obtain ⟨t1, t2⟩ := dig_take N d (by (first | lia | omega))
    have hlen : ((dig N).drop d).length = cd N - d := by rw [List.length_drop, hLc]
    obtain ⟨v1, v2, v3⟩ := halfL_val (cd N - d) (by (first | lia | omega))
    have hall : AllDigits ((dig N).drop d) := fun c hc => dig_all N c (List.mem_of_mem_drop hc)
    obtain ⟨x1, _⟩ := lex_val _ _ (v2.trans hlen.symm) v3 hall
    obtain ⟨_, x2⟩ := lex_val _ _ (hlen.trans v2.symm) hall v3
    rw [hlen, x1, x2, t1, t2, v1, hLc]
    have hne : (dig N).drop d ≠ [] := by
      intro e
      rw [e] at hlen
      simp at hlen
      (clear e x2 x1 v2 v1 t2 t1 hLc; lia)
    obtain ⟨j, hj⟩ : ∃ j, cd N - d = j + 1 := ⟨cd N - d - 1, by (clear hne x2 x1 v2 v1 hlen t2 t1 hLc; lia)⟩
    rw [hj, Nat.add_sub_cancel, Nat.pow_succ]
    generalize 10 ^ j = p
    generalize N % (p * 10) = r
    constructor
    · rintro ⟨_, h | ⟨h, h'⟩⟩
      · left; (first | lia | omega)
      · right; exact ⟨by (first | lia | omega), h'⟩
    · rintro (h | ⟨h, h'⟩)
      · exact ⟨hne, .inl (by (first | lia | omega))⟩
      · exact ⟨hne, .inr ⟨by (first | lia | omega), h'⟩⟩
theorem told_kept (N d : Nat) (hd : 1 ≤ d) : digitsVal ((dig N).take d) = N / 10 ^ (cd N - d) ∧ max ((dig N).length - d) 0 = cd N - d := by
  have hL := dig_length N
  by_cases h : (dig N).length ≤ d
  · rw [List.take_of_length_le h, dig_val]
    have e2 : cd N - d = 0 := by (first | lia | omega)
    rw [e2, Nat.pow_zero, Nat.div_one]
    exact ⟨rfl, by (first | lia | omega)⟩
  · have hLc : (dig N).length = cd N := by (first | lia | omega)
    rw [(dig_take N d (by (first | lia | omega))).1, hLc]
    exact ⟨rfl, by (clear hLc h hL hd; lia)⟩
end Mine
end
section
open PySem PySem.W PySem.Calls PyProof.Rows
set_option Elab.async false
set_option maxRecDepth 100000
set_option linter.unusedVariables false
namespace Mine
set_option hygiene false in
local macro_rules | `(tactic| k_updF) => `(tactic| ((with_reducible (first | apply e_fit_int | apply e_cut_quotient | apply e_order_of | apply e_count_digits | apply e_strip_zeros | apply e_round_digits | apply e_round_real | apply e_exact_add | apply e_exact_mul | apply e_real_neg | apply e_real_sub | apply e_real_compare | apply e_real_of_int | apply e_real_to_int | apply e_digits_of | apply e_collate | apply e_real_as | apply e_convert | apply e_half_up | apply e_as_int | apply e_as_real | apply e_as_double | apply e_as_complex | apply e_same_complex | apply e_cut_real | apply e_near_real | apply e_near_int | apply e_without_sign | apply e_rest_of | apply e_with_sign | apply e_compare_numbers | apply e_difference | apply e_double_product | apply e_extreme | apply e_greatest | apply e_least | apply e_greatest_as_real | apply e_least_as_real | apply e_greatest_as_int | apply e_least_as_int | apply e_second_part | apply e_conjugate | apply e_code_of | apply e_sign_of_code | apply e_length_of | apply e_place_of_text | apply e_is_not_below | apply e_is_above | apply e_is_not_above | apply e_is_below | apply e_law_one | apply e_law_told | apply e_law_fixed | apply e_law_cut | apply e_law_int | apply e_law_value | apply e_law_whole | apply e_law_padded | apply e_law_text_due | apply e_law_number_due | apply e_law_extreme | apply e_RunFault | apply e_abs | apply e_max | apply e_min | apply e_divmod | apply e_len | apply e_ord | apply e_chr | apply e_str | apply e_int | apply e_range | apply e_sorted | apply e_enumerate | apply e_INTEGER | apply e_REAL | apply e_DOUBLE | apply e_COMPLEX | apply e_LOGICAL | apply e_CHARACTER | apply e_SIGNS | apply e_NOUGHT)); assumption; rfl))
set_option hygiene false in
local macro_rules | `(tactic| k_subL) => `(tactic| first
  | exact bin_add | exact bin_sub
  | refine' bin_mul ?_ | refine' bin_div ?_ ?_ | refine' bin_mod ?_ | refine' bin_pow ?_ ?_ ?_ | refine' bin_shl ?_ ?_ ?_)
set_option hygiene false in
local macro_rules | `(tactic| k_offL) => `(tactic| first
  | exact cmp_lt | exact cmp_le | exact cmp_gt | exact cmp_ge | exact cmp_eq | exact cmp_ne | exact cmp_beq)
set_option hygiene false in
local macro_rules | `(tactic| k_ownIn) => `(tactic| first
  | exact abs_ok | exact max_ok | exact min_ok | refine' divmod_ok ?_ ?_ | refine' len_str_ok ?_ | refine' len_lst_ok ?_ | refine' len_tup_ok ?_)
set_option hygiene false in
local macro_rules | `(tactic| k_allIn) => `(tactic| first
  | exact Ev.int | exact Ev.str | exact Ev.none | exact Ev.bool
  | exact Ev.loc (by assumption) rfl rfl
  | k_updF
  | exact Ev.cel (by assumption) rfl rfl
  | refine' Ev.bin ?_ ?_ ?_
  | refine' Ev.neg ?_
  | refine' Ev.not ?_
  | refine' Ev.tup ?_ ?_
  | refine' Ev.lst ?_ ?_
  | refine' Ev.cmp ?_ ?_ ?_
  | refine' Ev.call ?_ ?_ ?_ ?_
  | refine' Ev.idx0 ?_ ?_
  | refine' Ev.idx1 ?_ ?_
  | refine' e_width ?_ | refine' e_real_digits ?_ | refine' e_double_digits ?_ | refine' e_top_exponent ?_
  | refine' Ev.ite ?_ ?_ ?_)
set_option hygiene false in
local macro_rules | `(tactic| k_clsL) => `(tactic| first
  | refine' Tr.cmp ?_ ?_ ?_
  | refine' Tr.cmp2 ?_ ?_ ?_ ?_ ?_
  | refine' Tr.not ?_
  | exact Tr.andNil | exact Tr.orNil
  | refine' Tr.and ?_ ?_
  | refine' Tr.or ?_ ?_
  | refine' Tr.plain ?_)
set_option hygiene false in
local macro_rules | `(tactic| k_memK) => `(tactic| first
  | exact Exs.nil
  | with_reducible refine' Exs.appNil ?_ | with_reducible refine' Exs.appCons ?_
  | refine' Exs.if_ ?_ ?_ ?_
  | refine' Exs.retd ?_ ?_
  | refine' Exs.assign ?_ (by assumption) rfl ?_
  | refine' Exs.tup2 ?_ (by assumption) rfl rfl ?_
  | refine' Exs.tup3 ?_ (by assumption) rfl rfl rfl ?_
  | refine' Exs.aug (by assumption) rfl rfl ?_ ?_ ?_
  | refine' Exs.raise_ ?_ ?_ ?_)
set_option hygiene false in
local macro_rules | `(tactic| kst_all1) => `(tactic| first
  | ((with_reducible show Exs _ _ _ _); k_memK)
  | ((with_reducible show Ev _ _ _ _); k_allIn)
  | ((with_reducible show Evs _ _ _ _); first | exact Evs.nil | refine' Evs.cons ?_ ?_)
  | ((with_reducible show Tr _ _ _ _); k_clsL)
  | ((with_reducible show BinOk _ _ _ _ _ _); k_subL)
  | ((with_reducible show CmpOk _ _ _ _ _ _); k_offL)
  | ((with_reducible show CallOk _ _ _ _); k_ownIn)
  | ((with_reducible show AugOk _ _ _ _ _ _); first | exact aug_add | refine' aug_div ?_ ?_)
  | ((with_reducible show _ ≤ Cx.n _); first | exact le_n (by assumption) (by decide) | omega)
  | ((with_reducible show List.length _ ≤ sizeLine); rw [sizeLine_eq]; simp only [List.length_cons, List.length_nil, List.length_map]; omega)
  | ((with_reducible show List.length _ < 2 ^ 62); simp only [List.length_cons, List.length_nil]; omega)
  | ((with_reducible show D.at _ _ = some _); rfl)
  | ((with_reducible show (_ : Bool) = _ → _); intro hif; first | ((first | with_reducible show Exs _ _ _ _ | with_reducible show Ev _ _ _ _); try (exfalso; revert hif; decide)) | with_reducible show Tr _ _ _ _))
set_option hygiene false in
local macro_rules | `(tactic| kbt_split) => `(tactic| (intro vs pm cd doc; revert vs; (first | refine bd1 ?_ | refine bd2 ?_ | refine bd3 ?_ | refine bd4 ?_ | refine bd5 ?_ | refine bd6 ?_); intros; rfl))
section
theorem ite_int {p : Bool} {x y : Int} : (if p then D.int x else D.int y) = D.int (if p then x else y) := by cases p <;> rfl
noncomputable
def orderI (a b : Int) : Int := if a == b then 0 else if decide (a < b) then -1 else 1
theorem order_of_ok (a b : Int) : CallOk 1 (.ref 96) [.int a, .int b] (some (.int (orderI a b))) := by
  refine CallOk.fn 16 ["x", "y"] g_order_of rfl (by kbt_split) rfl rfl rfl rfl rfl rfl (fun c hn hs => ?_)
  repeat' (kst_all1)
  · rw [orderI, hif]; rfl
  · rw [orderI, hif, ite_int]; rfl
noncomputable
def cutI (a b : Int) : Int := if decide (a < 0) == decide (b < 0) then (a.natAbs : Int).fdiv b.natAbs else -((a.natAbs : Int).fdiv b.natAbs)
theorem cut_quotient_ok (a b : Int) (hb : b ≠ 0) (hl : b.natAbs.log2 < 9000) : CallOk 1 (.ref 89) [.int a, .int b] (some (.int (cutI a b))) := by
  refine CallOk.fn 15 ["x", "y"] g_cut_quotient rfl (by kbt_split) rfl rfl rfl rfl rfl rfl (fun c hn hs => ?_)
  repeat' (kst_all1)
  · lia
  · simpa using hl
  · rw [ite_int]; rfl
theorem exact_mul_ok (m e m' e' : Int) (hm : IntMulOk m m') : CallOk 1 (.ref 139) [.tup [.int m, .int e], .tup [.int m', .int e']] (some (.tup [.int (m * m'), .int (e + e')])) := by
  refine CallOk.fn 24 ["x", "y"] g_exact_mul rfl (by kbt_split) rfl rfl rfl rfl rfl rfl (fun c hn hs => ?_)
  repeat' (kst_all1)
  · exact hm
  · rfl
theorem real_neg_ok (m e : Int) : CallOk 1 (.ref 146) [.tup [.int m, .int e]] (some (.tup [.int (-m), .int e])) := by
  refine CallOk.fn 25 ["x"] g_real_neg rfl (by kbt_split) rfl rfl rfl rfl rfl rfl (fun c hn hs => ?_)
  repeat' (kst_all1)
  · rfl
theorem digits_of_ok (k : Int) (wd : Int) : CallOk 1 (.ref 181) [.int k, .lim wd] (some (.int (if k == 1 then 4 else 9))) := by
  refine CallOk.fn 30 ["kind", "limits"] g_digits_of rfl (by kbt_split) rfl rfl rfl rfl rfl rfl (fun c hn hs => ?_)
  repeat' (kst_all1)
  · exact ite_int
end
section
theorem count_digits_ok (n : Int) : CallOk 1 (.ref 104) [.int n] (some (.int (cd n.natAbs))) := by
  refine CallOk.fn 19 ["n"] g_count_digits rfl (by kbt_split) rfl rfl rfl rfl rfl rfl (fun c hn hs => ?_)
  refine Exs.assign (d := .int n.natAbs) ?_ (by assumption) rfl (Exs.assign Ev.int (by assumption) rfl ?_)
  · repeat' (kst_all1)
  refine Exs.while_ (σ := Int × Int) (fun x => [(Str.ofString "n", .int x.1), (Str.ofString "count", .int x.2)]) (fun x => 0 ≤ x.1 ∧ cd x.1.toNat + x.2 = cd n.natAbs) (fun x => x.1.toNat) (fun x => decide (x.1 ≥ 1000000000)) (fun x => (x.1.fdiv 1000000000, x.2 + 9)) (n.natAbs, 0) ⟨by dsimp only; lia, by simp⟩ ⟨rfl, rfl, trivial⟩ ?_ ?_ ?_
  · rintro ⟨a, b⟩ hx
    dsimp only
    repeat' (kst_all1)
  · rintro ⟨a, b⟩ ⟨h0, hx⟩ ht
    simp only [decide_eq_true_eq] at h0 hx ht
    refine' ⟨_, ?_, ?_, ?_, ?_⟩; rotate_left
    · dsimp only
      repeat' (kst_all1)
      all_goals decide
    · exact ⟨rfl, rfl, trivial⟩
    · rw [Int.fdiv_eq_ediv_of_nonneg a (by decide)]
      refine ⟨by dsimp only; lia, ?_⟩
      dsimp only
      rw [← hx, cd_nine (n := a.toNat) (by (first | (clear hx h0 hs hn; lia) | lia | omega))]
      rw [show (a / 1000000000).toNat = a.toNat / 1000000000 by (first | lia | omega)]; lia
    · rw [Int.fdiv_eq_ediv_of_nonneg a (by decide)]
      dsimp only
      (first | (clear hx h0 hs hn; lia) | lia | omega)
  · rintro ⟨a, b⟩ hx ht
    dsimp only
    refine Exs.while_ (σ := Int × Int) (fun x => [(Str.ofString "n", .int x.1), (Str.ofString "count", .int x.2)]) (fun x => 0 ≤ x.1 ∧ cd x.1.toNat + x.2 = cd n.natAbs) (fun x => x.1.toNat) (fun x => decide (x.1 > 0)) (fun x => (x.1.fdiv 10, x.2 + 1)) (a, b) hx ⟨rfl, rfl, trivial⟩ ?_ ?_ ?_
    · rintro ⟨a, b⟩ hx
      dsimp only
      repeat' (kst_all1)
    · rintro ⟨a, b⟩ ⟨h0, hx⟩ ht
      simp only [decide_eq_true_eq] at h0 hx ht
      refine' ⟨_, ?_, ?_, ?_, ?_⟩; rotate_left
      · dsimp only
        repeat' (kst_all1)
        all_goals decide
      · exact ⟨rfl, rfl, trivial⟩
      · rw [Int.fdiv_eq_ediv_of_nonneg a (by decide)]
        refine ⟨by dsimp only; (first | (clear ht hx ht hx hs hn; lia) | lia | omega), ?_⟩
        dsimp only
        rw [← hx, cd_step (n := a.toNat) (by (first | (clear hx h0 hx hs hn; lia) | lia | omega))]
        rw [show (a / 10).toNat = a.toNat / 10 by (first | lia | omega)]; lia
      · rw [Int.fdiv_eq_ediv_of_nonneg a (by decide)]
        dsimp only
        (first | (clear hx h0 hx hs hn; lia) | lia | omega)
    · rintro ⟨a, b⟩ ⟨h0, hx⟩ ht
      simp only [decide_eq_false_iff_not] at h0 hx ht
      have ha : a = 0 := by (first | lia | omega)
      subst ha
      have hz : cd (Int.toNat 0) = 0 := cd_zero
      rw [hz] at hx
      dsimp only
      repeat' (kst_all1)
      rw [← hx]; simp
theorem strip_zeros_ok (m e : Int) : CallOk 1 (.ref 111) [.int m, .int e] (some (.tup [.int (strip m e).1, .int (strip m e).2])) := by
  refine CallOk.fn 20 ["m", "e"] g_strip_zeros rfl (by kbt_split) rfl rfl rfl rfl rfl rfl (fun c hn hs => ?_)
  refine Exs.if_ (Tr.cmp (Ev.loc (by assumption) rfl rfl) Ev.int cmp_eq) ?_ ?_
  · intro hif
    repeat' (kst_all1)
    rw [strip, if_pos hif]
  · intro hif
    have hm : m ≠ 0 := by simpa using hif
    rw [show strip m e = stripF m.natAbs m e by rw [strip, hif]; rfl]
    refine Exs.appNil (Exs.while_ (σ := Int × Int) (fun x => [(Str.ofString "m", .int x.1), (Str.ofString "e", .int x.2)]) (fun x => x.1 ≠ 0 ∧ stripF x.1.natAbs x.1 x.2 = stripF m.natAbs m e) (fun x => x.1.natAbs) (fun x => x.1.fmod 10 == 0) (fun x => (x.1.fdiv 10, x.2 + 1)) (m, e) ⟨hm, rfl⟩ ⟨rfl, rfl, trivial⟩ ?_ ?_ ?_)
    · rintro ⟨a, b⟩ hx
      dsimp only
      repeat' (kst_all1)
      decide
    · rintro ⟨a, b⟩ ⟨h0, hx⟩ ht
      simp only [beq_iff_eq] at h0 hx ht
      have ht' := ht
      rw [Int.fmod_eq_emod_of_nonneg a (by decide)] at ht'
      refine' ⟨_, ?_, ?_, ?_, ?_⟩; rotate_left
      · dsimp only
        repeat' (kst_all1)
        all_goals decide
      · exact ⟨rfl, rfl, trivial⟩
      · refine ⟨?_, ?_⟩
        · dsimp only
          rw [Int.fdiv_eq_ediv_of_nonneg a (by decide)]; (first | (clear ht hx hm hif hs hn; lia) | lia | omega)
        · dsimp only
          rw [← hx, stripF_step ht h0 (Nat.le_refl _)]
      · rw [Int.fdiv_eq_ediv_of_nonneg a (by decide)]
        dsimp only
        (first | (clear ht hx hm hif hs hn; omega) | lia | omega)
    · rintro ⟨a, b⟩ ⟨h0, hx⟩ ht
      have ht' : a.fmod 10 ≠ 0 := by simpa using ht
      rw [stripF_end ht'] at hx
      rw [← hx]
      dsimp only
      repeat' (kst_all1)
      rfl
end
section
set_option hygiene false in
local macro_rules | `(tactic| k_ownIn) => `(tactic| first | exact count_digits_ok _ | exact strip_zeros_ok _ _)
theorem Ev.iteI {c : Cx} {ρ : List (Str × D)} {t b o : Expr} {pos : Pos} {p : Bool} {x y : Int} (ht : Tr c ρ t p) (h1 : p = true → Ev c ρ b (some (.int x))) (h2 : p = false → Ev c ρ o (some (.int y))) : Ev c ρ (.IfExp t b o pos) (some (.int (if p then x else y))) :=
  Ev.cast (Ev.ite ht h1 h2) ite_int
theorem Tr.cast {c : Cx} {ρ : List (Str × D)} {e : Expr} {p q : Bool} (h : Tr c ρ e p) (hp : p = q) : Tr c ρ e q := hp ▸ h
theorem upI (N a : Nat) : (if (decide (2 * (N : Int).fmod (10 ^ a) > 10 ^ a) || ((2 * (N : Int).fmod (10 ^ a) == 10 ^ a) && (((N : Int).fdiv (10 ^ a)).fmod 2 == 1))) then (N : Int).fdiv (10 ^ a) + 1 else (N : Int).fdiv (10 ^ a)) = (up N (10 ^ a) : Int) := by
  have hp : ((10 : Int) ^ a) = ((10 ^ a : Nat) : Int) := by rw [Int.natCast_pow]; rfl
  rw [hp]
  generalize 10 ^ a = p
  rw [Int.fmod_eq_emod_of_nonneg _ (by (first | lia | omega)), Int.fdiv_eq_ediv_of_nonneg _ (by (first | lia | omega)), Int.fmod_eq_emod_of_nonneg _ (by decide)]
  rw [← Int.natCast_ediv, ← Int.natCast_emod]
  unfold up
  generalize N % p = r
  generalize N / p = q
  simp only [Bool.or_eq_true, Bool.and_eq_true, decide_eq_true_eq, beq_iff_eq]
  by_cases h : p < 2 * r ∨ (2 * r = p ∧ q % 2 = 1)
  · rw [if_pos h, if_pos (by (first | lia | omega))]; lia
  · rw [if_neg h, if_neg (by (first | lia | omega))]
theorem log2_pow10 {a : Nat} (h : a ≤ 2000) : ((10 : Int) ^ a).natAbs.log2 < 9000 := by
  rw [Int.natAbs_pow]
  have h1 : (10 : Int).natAbs ^ a < 2 ^ (4 * a + 1) := by
    have : (10 : Nat) ^ a ≤ 16 ^ a := Nat.pow_le_pow_left (by decide) a
    rw [show (16 : Nat) = 2 ^ 4 by decide, ← Nat.pow_mul] at this
    show 10 ^ a < _
    rw [Nat.pow_succ]
    have := Nat.two_pow_pos (4 * a)
    lia
  have h2 := (Nat.log2_lt (Nat.ne_of_gt (pow_pos10 a))).mpr h1
  exact Nat.lt_of_lt_of_le h2 (by (first | lia | omega))
theorem mulOk2 {r : Int} : IntMulOk 2 r := IntMulOk.of_left (by decide)
theorem round_digits_ok (m e : Int) (d : Nat) (hc : cd m.natAbs ≤ 2000) : CallOk 2 (.ref 118) [.int m, .int e, .int d] (some (.tup [.int (roundD m e d).1, .int (roundD m e d).2])) := by
  refine CallOk.fn 21 ["m", "e", "digits"] g_round_digits rfl (by kbt_split) rfl rfl rfl rfl rfl rfl (fun c hn hs => ?_)
  refine Exs.assign (d := .int (cd m.natAbs - d)) ?_ (by assumption) rfl (Exs.if_ (Tr.cmp (Ev.loc (by assumption) rfl rfl) Ev.int cmp_gt) (fun hif => ?_) (fun hif => ?_))
  · repeat' (kst_all1)
  · simp only [decide_eq_true_eq] at hif
    obtain ⟨a, ha, ha2⟩ : ∃ a : Nat, cd m.natAbs - d = a ∧ (cd m.natAbs - d : Int) = a := ⟨cd m.natAbs - d, rfl, by (first | lia | omega)⟩
    have hn0 : (10 : Int) ^ a ≠ 0 := Int.ne_of_gt (pow10_pos a)
    rw [ha2]
    have key := upI m.natAbs a
    have fin : ∀ k : Int, k = (up m.natAbs (10 ^ a) : Int) → (if decide (m > 0) then k else -k) = sg m (up m.natAbs (10 ^ a)) := by
      intro k hk; subst hk; unfold sg; simp only [decide_eq_true_eq, gt_iff_lt]
    refine Exs.appCons (Exs.assign (d := .int (10 ^ a)) ?_ (by assumption) rfl ?_)
    · refine Ev.bin Ev.int (Ev.loc (by assumption) rfl rfl) (bin_pow (b := (a : Int)) (by (first | (clear fin key hn0 ha2 ha hif hs hn hc; lia) | lia | omega)) (by (first | lia | omega)) (by decide))
    refine Exs.appCons (Exs.tup2 (d1 := .int ((m.natAbs : Int).fdiv (10 ^ a))) (d2 := .int ((m.natAbs : Int).fmod (10 ^ a))) ?_ (by assumption) rfl rfl ?_)
    · repeat' (kst_all1)
      · exact hn0
      · exact log2_pow10 (by (first | lia | omega))
    refine Exs.appCons (Exs.if_ (p := decide (2 * (m.natAbs : Int).fmod (10 ^ a) > 10 ^ a) || ((2 * (m.natAbs : Int).fmod (10 ^ a) == 10 ^ a) && (((m.natAbs : Int).fdiv (10 ^ a)).fmod 2 == 1))) ?_ (fun hif2 => ?_) (fun hif2 => ?_))
    · refine Tr.cast (p := decide (2 * (m.natAbs : Int).fmod (10 ^ a) > 10 ^ a) || (((2 * (m.natAbs : Int).fmod (10 ^ a) == 10 ^ a) && ((((m.natAbs : Int).fdiv (10 ^ a)).fmod 2 == 1) && true)) || false)) ?_ (by rw [Bool.and_true, Bool.or_false])
      repeat' (kst_all1)
      all_goals first | exact mulOk2 | decide
    · rw [if_pos hif2] at key
      refine Exs.appCons (Exs.aug (d := .int (up m.natAbs (10 ^ a))) (by assumption) rfl rfl Ev.int ?_ ?_)
      · rw [← key]; exact aug_add
      refine Exs.appNil (Exs.assign (d := .int (sg m (up m.natAbs (10 ^ a)))) ?_ (by assumption) rfl ?_)
      · rw [← fin _ rfl]
        refine Ev.iteI (Tr.cmp (Ev.loc (by assumption) rfl rfl) Ev.int cmp_gt) (fun _ => Ev.loc (by assumption) rfl rfl) (fun _ => Ev.neg (Ev.loc (by assumption) rfl rfl))
      repeat' (kst_all1)
      unfold roundD
      rw [ha]
    · rw [if_neg (by rw [hif2]; decide)] at key
      refine Exs.appNil (Exs.assign (d := .int (sg m (up m.natAbs (10 ^ a)))) ?_ (by assumption) rfl ?_)
      · rw [← fin _ rfl, ← key]
        refine Ev.iteI (Tr.cmp (Ev.loc (by assumption) rfl rfl) Ev.int cmp_gt) (fun _ => Ev.loc (by assumption) rfl rfl) (fun _ => Ev.neg (Ev.loc (by assumption) rfl rfl))
      repeat' (kst_all1)
      unfold roundD
      rw [ha]
  · simp only [decide_eq_false_iff_not] at hif
    refine Exs.appNil ?_
    repeat' (kst_all1)
    rw [roundD_small (by (first | lia | omega))]
end
section
set_option hygiene false in
local macro_rules | `(tactic| k_ownIn) => `(tactic| first | exact count_digits_ok _ | exact strip_zeros_ok _ _ | refine' round_digits_ok _ _ _ ?_ | exact real_neg_ok _ _ | exact digits_of_ok _ _ | exact order_of_ok _ _)
noncomputable
def Sm (m : Int) : Prop := m.natAbs < 10 ^ 1000
theorem bits_pow10 {n k : Nat} (h : n < 10 ^ k) (hk : k ≤ 2000) : n < 2 ^ (2 ^ 20) := by
  have : (10 : Nat) ^ k ≤ 16 ^ k := Nat.pow_le_pow_left (by decide) k
  rw [show (16 : Nat) = 2 ^ 4 by decide, ← Nat.pow_mul] at this
  have h2 : (2 : Nat) ^ (4 * k) ≤ 2 ^ (2 ^ 20) := Nat.pow_le_pow_right (by decide) (by (first | lia | omega))
  exact Nat.lt_of_lt_of_le h (Nat.le_trans this h2)
theorem mulOk_of {a b : Int} (ha : a.natAbs < 10 ^ 1000) (hb : b.natAbs < 10 ^ 1001) : IntMulOk a b :=
  IntMulOk.of_bits (intBits_le_iff.mpr (bits_pow10 ha (by decide))) (intBits_le_iff.mpr (bits_pow10 hb (by decide)))
theorem mulOk_pow {a : Int} {k : Nat} (ha : Sm a) (hk : k ≤ 1000) : IntMulOk a (10 ^ k) := mulOk_of ha (by
  rw [Int.natAbs_pow]
  exact Nat.pow_lt_pow_right (by decide) (by (first | lia | omega)))
structure InR (m e : Int) : Prop where
  sm : cd m.natAbs ≤ 1000
  rg : m ≠ 0 → -25 ≤ (cd m.natAbs : Int) + e ∧ (cd m.natAbs : Int) + e ≤ 25
theorem InR.small {m e : Int} (h : InR m e) : Sm m := Nat.lt_of_lt_of_le (lt_cd _) (Nat.pow_le_pow_right (by decide) h.sm)
theorem round_real_ok (m e : Int) (d : Nat) (hd : 1 ≤ d) (hr : InR m e) : CallOk 3 (.ref 125) [.int m, .int e, .int d, .int 30] (some (.tup [.int (roundD m e d).1, .int (roundD m e d).2])) := by
  refine CallOk.fn 22 ["m", "e", "digits", "top"] g_round_real rfl (by kbt_split) rfl rfl rfl rfl rfl rfl (fun c hn hs => ?_)
  have hs2 := fun h => roundD_spec (m := m) (e := e) (d := d) h hd
  have hz : m = 0 → roundD m e d = (0, 0) := fun h => by rw [h]; exact roundD_zero
  have hrg := hr.rg
  generalize hR : roundD m e d = r at *
  refine Exs.tup2 (d1 := .int r.1) (d2 := .int r.2) ?_ (by assumption) rfl rfl ?_
  · rw [← hR]
    repeat' (kst_all1)
    have := hr.sm; lia
  repeat' (kst_all1)
  · simp only [Bool.or_false, Bool.or_eq_true, beq_iff_eq, decide_eq_true_eq] at hif
    have : m = 0 := by
      by_cases h : m = 0
      · exact h
      · have := hs2 h; have := hrg h; omega
    rw [hz this]
  · exfalso
    rename_i hif0
    simp only [decide_eq_true_eq] at hif
    by_cases h : m = 0
    · rw [hz h] at hif0; cases hif0
    · have := hs2 h; have := hrg h; omega
  · rfl

/-- the sum, in units of the smaller exponent -/
noncomputable
def addI (x y : Int × Int) : Int × Int := (x.1 * 10 ^ (x.2 - min x.2 y.2).toNat + y.1 * 10 ^ (y.2 - min x.2 y.2).toNat, min x.2 y.2)
structure Near (x y : Int × Int) : Prop where
  sx : Sm x.1
  sy : Sm y.1
  lo : x.2 - y.2 ≤ 1000
  hi : y.2 - x.2 ≤ 1000
theorem exact_add_ok (x y : Int × Int) (h : Near x y) : CallOk 1 (.ref 132) [.tup [.int x.1, .int x.2], .tup [.int y.1, .int y.2]] (some (.tup [.int (addI x y).1, .int (addI x y).2])) := by
  refine CallOk.fn 23 ["x", "y"] g_exact_add rfl (by kbt_split) rfl rfl rfl rfl rfl rfl (fun c hn hs => ?_)
  have := h.lo
  have := h.hi
  repeat' (kst_all1)
  all_goals first | omega | decide | exact mulOk_pow h.sx (by (first | lia | omega)) | exact mulOk_pow h.sy (by (first | lia | omega)) | rfl
theorem real_sub_ok (x y : Int × Int) (d : Nat) (hd : 1 ≤ d) (h : Near x y) (hr : InR (addI x (-y.1, y.2)).1 (addI x (-y.1, y.2)).2) :
    CallOk 4 (.ref 153) [.tup [.int x.1, .int x.2], .tup [.int y.1, .int y.2], .int d, .int 30] (some (.tup [.int (roundD (addI x (-y.1, y.2)).1 (addI x (-y.1, y.2)).2 d).1, .int (roundD (addI x (-y.1, y.2)).1 (addI x (-y.1, y.2)).2 d).2])) := by
  refine CallOk.fn 26 ["x", "y", "digits", "top"] g_real_sub rfl (by kbt_split) rfl rfl rfl rfl rfl rfl (fun c hn hs => ?_)
  have hN : Near x (-y.1, y.2) := ⟨h.sx, by have := h.sy; unfold Sm at *; dsimp only; (first | (clear hs hn hd; omega) | lia | omega), h.lo, h.hi⟩
  have con1 := exact_add_ok x (-y.1, y.2) hN
  have con2 := round_real_ok _ _ d hd hr
  refine Exs.tup2 (d1 := .int (addI x (-y.1, y.2)).1) (d2 := .int (addI x (-y.1, y.2)).2) ?_ (by assumption) rfl rfl ?_
  · repeat' (first | exact con1 | kst_all1)
  repeat' (first | exact con2 | kst_all1)
  rfl
noncomputable
def cmpI (x y : Int × Int) : Int := orderI (addI x (-y.1, y.2)).1 0
theorem real_compare_ok (x y : Int × Int) (h : Near x y) : CallOk 2 (.ref 160) [.tup [.int x.1, .int x.2], .tup [.int y.1, .int y.2]] (some (.int (cmpI x y))) := by
  refine CallOk.fn 27 ["x", "y"] g_real_compare rfl (by kbt_split) rfl rfl rfl rfl rfl rfl (fun c hn hs => ?_)
  have hN : Near x (-y.1, y.2) := ⟨h.sx, by have := h.sy; unfold Sm at *; dsimp only; omega, h.lo, h.hi⟩
  have con1 := exact_add_ok x (-y.1, y.2) hN
  unfold cmpI orderI
  generalize addI x (-y.1, y.2) = r at *
  repeat' (first | exact con1 | kst_all1)
  · rw [hif]; rfl
  · rw [hif, ite_int]
    simp only [beq_eq_false_iff_ne] at hif
    by_cases q : r.1 > 0
    · rw [decide_eq_true q, decide_eq_false (by (first | lia | omega))]; rfl
    · rw [decide_eq_false q, decide_eq_true (by (first | lia | omega))]; rfl
theorem real_of_int_ok (n : Int) (d : Nat) (hd : 1 ≤ d) (hr : InR n 0) : CallOk 4 (.ref 167) [.int n, .int d, .int 30] (some (.tup [.int (roundD n 0 d).1, .int (roundD n 0 d).2])) := by
  refine CallOk.fn 28 ["n", "digits", "top"] g_real_of_int rfl (by kbt_split) rfl rfl rfl rfl rfl rfl (fun c hn hs => ?_)
  have con2 := round_real_ok _ _ d hd hr
  repeat' (first | exact con2 | kst_all1)
  rfl
/-- the whole part -/
noncomputable
def toI (x : Int × Int) : Int := if decide (x.2 ≥ 0) then x.1 * 10 ^ x.2.toNat else if decide (x.1 > 0) then (x.1.natAbs : Int).fdiv (10 ^ (-x.2).toNat) else -((x.1.natAbs : Int).fdiv (10 ^ (-x.2).toNat))
theorem real_to_int_ok (x : Int × Int) (h : Sm x.1) (h1 : x.2 ≤ 1000) (h2 : -1000 ≤ x.2) : CallOk 1 (.ref 174) [.tup [.int x.1, .int x.2]] (some (.int (toI x))) := by
  refine CallOk.fn 29 ["x"] g_real_to_int rfl (by kbt_split) rfl rfl rfl rfl rfl rfl (fun c hn hs => ?_)
  unfold toI
  refine Exs.tup2 (d1 := .int x.1) (d2 := .int x.2) (Ev.loc (by assumption) rfl rfl) (by assumption) rfl rfl ?_
  repeat' (kst_all1)
  all_goals simp only [decide_eq_true_eq, decide_eq_false_iff_not] at hif
  all_goals first | omega | decide | exact mulOk_pow h (by (first | lia | omega)) | exact Int.ne_of_gt (pow10_pos _) | exact log2_pow10 (by (first | lia | omega)) | skip
  · rw [if_pos (by simpa using hif)]
  · rw [decide_eq_false hif, ite_int]; rfl
end
section
theorem CallOk.fno {n : Nat} {f : Addr} {ds : List D} {r : Option D} {name : Str} {params : Arguments} {body : List Stmt} {scope : Scope} {ps : Pos} (i : Nat) (xs : List Str)
    (hg : ∀ P, nsIn (Ks P) mainGlobals name = some (some (.ref f)))
    (hst : P0.main.body[i]? = some (PySem.Stmt.FunctionDef name params body [] none [] scope none name ps))
    (hbind : ∀ (vs : List Value) (pm cd doc : Value), vs.length = ds.length → bindArgs (docDef name params body scope pm cd doc) ⟨vs, []⟩ = Pure.pure (xs.zip vs))
    (hloc : (xs.all fun x => decide (scope.names.lookup x = some .local)) = true)
    (hcell : (scope.names.all fun x => x.2 != .cell) = true)
    (hk : scope.kind = .function) (hco : scope.isCoroutine = false) (hgen : scope.isGenerator = false)
    (hdeep : ∀ d, r = some d → d.deep = true)
    (h : ∀ c : Cx, c.n = n → c.ns = scope.names → Exs c (xs.zip ds).reverse body (outOf r)) : CallOk (n + 1) (.ref f) ds r :=
  CallOk.def_ (o := outOf r) hst hg hbind hloc hcell hk hco hgen hdeep (.inr rfl) h
/-- a whole number that its bits hold -/
noncomputable
def fitI (n w : Int) : Option Int := if decide (n < -(1 * 2 ^ (w - 1).toNat)) || (decide (n ≥ 1 * 2 ^ (w - 1).toNat) || false) then none else some n
theorem optDeep {o : Option Int} {d : D} (h : o.map D.int = some d) : d.deep = true := by
  obtain ⟨i, _, rfl⟩ := Option.map_eq_some_iff.mp h
  rfl
theorem fit_int_c (n w : Int) (h1 : 1 ≤ w) (h2 : w ≤ 64) : CallOk 4 (.ref 82) [.int n, .int w] ((fitI n w).map D.int) := by
  refine CallOk.fno 14 ["n", "width"] g_fit_int rfl (by kbt_split) rfl rfl rfl rfl rfl (fun d => optDeep) (fun c hn hs => ?_)
  unfold fitI
  refine Exs.assign (d := .int (1 * 2 ^ (w - 1).toNat)) ?_ (by assumption) rfl (Exs.if_ (p := decide (n < -(1 * 2 ^ (w - 1).toNat)) || (decide (n ≥ 1 * 2 ^ (w - 1).toNat) || false)) ?_ (fun hif => ?_) (fun hif => ?_))
  · repeat' (kst_all1)
    all_goals first | lia | decide
  · repeat' (kst_all1)
  · rw [hif]
    show Exs _ _ _ .raise
    repeat' (kst_all1)
  · rw [hif]
    refine Exs.appNil (Exs.ret (r := some (.int n)) ?_)
    repeat' (kst_all1)
noncomputable
def halfI (x : Int × Int) : Int := if decide (x.1 < 0) then -(toI (addI ((x.1.natAbs : Int), x.2) (5, -1))) else toI (addI ((x.1.natAbs : Int), x.2) (5, -1))
structure Md (x : Int × Int) : Prop where
  sm : cd x.1.natAbs ≤ 60
  lo : -60 ≤ x.2
  hi : x.2 ≤ 60
theorem Md.small {x : Int × Int} (h : Md x) : Sm x.1 := Nat.lt_of_lt_of_le (lt_cd _) (Nat.pow_le_pow_right (by decide) (by have := h.sm; lia))
theorem Md.near {x y : Int × Int} (h : Md x) (h' : Md y) : Near x y := ⟨h.small, h'.small, by have := h.hi; have := h'.lo; lia, by have := h.lo; have := h'.hi; lia⟩
theorem Sm.of {m : Int} {k : Nat} (hk : k ≤ 1000) (h : m.natAbs < 10 ^ k) : Sm m := Nat.lt_of_lt_of_le h (Nat.pow_le_pow_right (by decide) hk)
theorem addI_small {x y : Int × Int} (h : Md x) (h' : Md y) : (addI x y).1.natAbs < 10 ^ 181 := by
  unfold addI
  dsimp only
  have e1 : (x.1 * 10 ^ (x.2 - min x.2 y.2).toNat).natAbs < 10 ^ 180 := by
    rw [natAbs_mulpow]
    have := lt_cd x.1.natAbs
    refine Nat.lt_of_lt_of_le (Nat.mul_lt_mul_of_pos_right this (pow_pos10 _)) ?_
    rw [← Nat.pow_add]
    exact Nat.pow_le_pow_right (by decide) (by have := h.sm; have := h.lo; have := h.hi; have := h'.lo; lia)
  have e2 : (y.1 * 10 ^ (y.2 - min x.2 y.2).toNat).natAbs < 10 ^ 180 := by
    rw [natAbs_mulpow]
    have := lt_cd y.1.natAbs
    refine Nat.lt_of_lt_of_le (Nat.mul_lt_mul_of_pos_right this (pow_pos10 _)) ?_
    rw [← Nat.pow_add]
    exact Nat.pow_le_pow_right (by decide) (by have := h'.sm; have := h.lo; have := h'.hi; have := h'.lo; lia)
  rw [Nat.pow_succ]
  generalize 10 ^ 180 = p at e1 e2 ⊢
  omega
theorem half_up_ok (x : Int × Int) (h : Md x) : CallOk 2 (.ref 209) [.tup [.int x.1, .int x.2]] (some (.int (halfI x))) := by
  refine CallOk.fn 37 ["x"] g_half_up rfl (by kbt_split) rfl rfl rfl rfl rfl rfl (fun c hn hs => ?_)
  have h5 : Md ((5 : Int), (-1 : Int)) := ⟨by decide +kernel, by decide, by decide⟩
  have hx : Md ((x.1.natAbs : Int), x.2) := ⟨by have := h.sm; simpa using this, h.lo, h.hi⟩
  have con1 := exact_add_ok ((x.1.natAbs : Int), x.2) (5, -1) (hx.near h5)
  have hlo : (addI ((x.1.natAbs : Int), x.2) (5, -1)).2 = min x.2 (-1) := rfl
  have con2 := real_to_int_ok (addI ((x.1.natAbs : Int), x.2) (5, -1)) (Sm.of (by decide) (addI_small hx h5)) (by rw [hlo]; have := h.lo; have := h.hi; lia) (by rw [hlo]; have := h.lo; have := h.hi; lia)
  unfold halfI
  repeat' (first | exact con1 | exact con2 | kst_all1)
  exact ite_int
end
section
set_option hygiene false in
local macro_rules | `(tactic| k_ownIn) => `(tactic| first | exact real_neg_ok _ _ | exact digits_of_ok _ _ | exact order_of_ok _ _)
noncomputable
def dg (k : Int) : Nat := if k == 1 then 4 else 9
theorem dg_cast (k : Int) : (if k == 1 then (4 : Int) else 9) = (dg k : Int) := by unfold dg; cases (k == 1) <;> rfl
theorem dg_pos (k : Int) : 1 ≤ dg k := by unfold dg; cases (k == 1) <;> decide
theorem digits_of_ok' (k wd : Int) : CallOk 1 (.ref 181) [.int k, .lim wd] (some (.int (dg k))) := by rw [← dg_cast]; exact digits_of_ok k wd
noncomputable
abbrev tupD (x : Int × Int) : D := .tup [.int x.1, .int x.2]
theorem real_as_int_ok (n to wd : Int) (hr : InR n 0) : CallOk 5 (.ref 195) [.int n, .int 0, .int to, .lim wd] (some (tupD (roundD n 0 (dg to)))) := by
  refine CallOk.fn 33 ["value", "of", "to", "limits"] g_real_as rfl (by kbt_split) rfl rfl rfl rfl rfl rfl (fun c hn hs => ?_)
  have con1 := digits_of_ok' to wd
  have con2 := real_of_int_ok n (dg to) (dg_pos to) hr
  repeat' (first | exact con1 | exact con2 | kst_all1)
  rfl
theorem real_as_real_ok (x : Int × Int) (of to wd : Int) (hof : of = 1 ∨ of = 2) (hr : InR x.1 x.2) : CallOk 5 (.ref 195) [tupD x, .int of, .int to, .lim wd] (some (tupD (roundD x.1 x.2 (dg to)))) := by
  have con1 := digits_of_ok' to wd
  have con2 := round_real_ok x.1 x.2 (dg to) (dg_pos to) hr
  rcases hof with rfl | rfl
  all_goals
    refine CallOk.fn 33 ["value", "of", "to", "limits"] g_real_as rfl (by kbt_split) rfl rfl rfl rfl rfl rfl (fun c hn hs => ?_)
    repeat' (first | exact con1 | exact con2 | kst_all1)
    rfl
theorem real_as_cpx_ok (x y : Int × Int) (to wd : Int) (hr : InR x.1 x.2) : CallOk 5 (.ref 195) [.tup [tupD x, tupD y], .int 3, .int to, .lim wd] (some (tupD (roundD x.1 x.2 (dg to)))) := by
  refine CallOk.fn 33 ["value", "of", "to", "limits"] g_real_as rfl (by kbt_split) rfl rfl rfl rfl rfl rfl (fun c hn hs => ?_)
  have con1 := digits_of_ok' to wd
  have con2 := round_real_ok x.1 x.2 (dg to) (dg_pos to) hr
  repeat' (first | exact con1 | exact con2 | kst_all1)
  rfl
/-- CPLX-free conversions -/
theorem convert_same_ok (v : D) (k wd : Int) (hv : v.deep = true) : CallOk 6 (.ref 202) [v, .int k, .int k, .lim wd] (some v) := by
  refine CallOk.fn 34 ["value", "of", "to", "limits"] g_convert rfl (by kbt_split) rfl rfl rfl rfl rfl hv (fun c hn hs => ?_)
  refine Exs.if_ (Tr.cmp (Ev.loc (by assumption) rfl rfl) (Ev.loc (by assumption) rfl rfl) cmp_eq) (fun _ => ?_) (fun hif => by simp at hif)
  repeat' (kst_all1)
  rfl
theorem convert_real_int_ok (x : Int × Int) (of wd : Int) (hof : of = 1 ∨ of = 2) (hx : Md x) (h1 : 1 ≤ wd) (h2 : wd ≤ 64) : CallOk 6 (.ref 202) [tupD x, .int of, .int 0, .lim wd] ((fitI (toI x) wd).map D.int) := by
  have con1 := real_to_int_ok x hx.small (by have := hx.hi; lia) (by have := hx.lo; lia)
  have con2 := fit_int_c (toI x) wd h1 h2
  rcases hof with rfl | rfl
  all_goals
    refine CallOk.fno 34 ["value", "of", "to", "limits"] g_convert rfl (by kbt_split) rfl rfl rfl rfl rfl (fun d => optDeep) (fun c hn hs => ?_)
    generalize (fitI (toI x) wd).map D.int = r at *
    repeat' (first | exact con1 | exact con2 | refine Exs.ret ?_ | kst_all1)
theorem convert_cpx_int_ok (x y : Int × Int) (wd : Int) (hx : Md x) (h1 : 1 ≤ wd) (h2 : wd ≤ 64) : CallOk 6 (.ref 202) [.tup [tupD x, tupD y], .int 3, .int 0, .lim wd] ((fitI (toI x) wd).map D.int) := by
  have con1 := real_to_int_ok x hx.small (by have := hx.hi; lia) (by have := hx.lo; lia)
  have con2 := fit_int_c (toI x) wd h1 h2
  refine CallOk.fno 34 ["value", "of", "to", "limits"] g_convert rfl (by kbt_split) rfl rfl rfl rfl rfl (fun d => optDeep) (fun c hn hs => ?_)
  generalize (fitI (toI x) wd).map D.int = r at *
  repeat' (first | exact con1 | exact con2 | refine Exs.ret ?_ | kst_all1)
theorem convert_int_real_ok (n wd : Int) (hr : InR n 0) : CallOk 6 (.ref 202) [.int n, .int 0, .int 1, .lim wd] (some (tupD (roundD n 0 4))) := by
  refine CallOk.fn 34 ["value", "of", "to", "limits"] g_convert rfl (by kbt_split) rfl rfl rfl rfl rfl rfl (fun c hn hs => ?_)
  have con1 := real_as_int_ok n 1 wd hr
  repeat' (first | exact con1 | kst_all1)
  rfl
end
section
set_option hygiene false in
local macro_rules | `(tactic| k_ownIn) => `(tactic| first | exact real_neg_ok _ _ | exact digits_of_ok' _ _ | exact order_of_ok _ _)
theorem as_int_int_ok (n wd : Int) (ks vs : List D) : CallOk 7 (.ref 216) [.lst (.int 0 :: ks), .lst (.int n :: vs), .lim wd] (some (.int n)) := by
  have con1 := convert_same_ok (.int n) 0 wd rfl
  refine CallOk.fn 38 ["kinds", "values", "limits"] g_as_int rfl (by kbt_split) rfl rfl rfl rfl rfl rfl (fun c hn hs => ?_)
  repeat' (first | exact con1 | kst_all1)
  rfl
theorem as_int_real_ok (x : Int × Int) (k wd : Int) (ks vs : List D) (hk : k = 1 ∨ k = 2) (hx : Md x) (h1 : 1 ≤ wd) (h2 : wd ≤ 64) : CallOk 7 (.ref 216) [.lst (.int k :: ks), .lst (tupD x :: vs), .lim wd] ((fitI (toI x) wd).map D.int) := by
  have con1 := convert_real_int_ok x k wd hk hx h1 h2
  refine CallOk.fno 38 ["kinds", "values", "limits"] g_as_int rfl (by kbt_split) rfl rfl rfl rfl rfl (fun d => optDeep) (fun c hn hs => ?_)
  generalize (fitI (toI x) wd).map D.int = r at *
  repeat' (first | exact con1 | refine Exs.ret ?_ | kst_all1)
theorem as_int_cpx_ok (x y : Int × Int) (wd : Int) (ks vs : List D) (hx : Md x) (h1 : 1 ≤ wd) (h2 : wd ≤ 64) : CallOk 7 (.ref 216) [.lst (.int 3 :: ks), .lst (.tup [tupD x, tupD y] :: vs), .lim wd] ((fitI (toI x) wd).map D.int) := by
  have con1 := convert_cpx_int_ok x y wd hx h1 h2
  refine CallOk.fno 38 ["kinds", "values", "limits"] g_as_int rfl (by kbt_split) rfl rfl rfl rfl rfl (fun d => optDeep) (fun c hn hs => ?_)
  generalize (fitI (toI x) wd).map D.int = r at *
  repeat' (first | exact con1 | refine Exs.ret ?_ | kst_all1)
theorem as_real_c (v r : D) (k wd : Int) (ks vs : List D) (hr : r.deep = true) (con1 : CallOk 5 (.ref 195) [v, .int k, .int 1, .lim wd] (some r)) : CallOk 6 (.ref 223) [.lst (.int k :: ks), .lst (v :: vs), .lim wd] (some r) := by
  refine CallOk.fn 39 ["kinds", "values", "limits"] g_as_real rfl (by kbt_split) rfl rfl rfl rfl rfl hr (fun c hn hs => ?_)
  repeat' (first | exact con1 | kst_all1)
  rfl
theorem as_double_c (v r : D) (k wd : Int) (ks vs : List D) (hr : r.deep = true) (con1 : CallOk 5 (.ref 195) [v, .int k, .int 2, .lim wd] (some r)) : CallOk 6 (.ref 230) [.lst (.int k :: ks), .lst (v :: vs), .lim wd] (some r) := by
  refine CallOk.fn 40 ["kinds", "values", "limits"] g_as_double rfl (by kbt_split) rfl rfl rfl rfl rfl hr (fun c hn hs => ?_)
  repeat' (first | exact con1 | kst_all1)
  rfl
theorem as_complex1_ok (v l k : D) (hv : v.deep = true) : CallOk 1 (.ref 237) [k, .lst [v], l] (some (.tup [v, tupD (0, 0)])) := by
  refine CallOk.fn 41 ["kinds", "values", "limits"] g_as_complex rfl (by kbt_split) rfl rfl rfl rfl rfl (by simp [D.deep, D.deepAll, hv]) (fun c hn hs => ?_)
  refine Exs.retd (Ev.tup (Evs.cons (d := v) ?_ (Evs.cons (d := tupD (0, 0)) (Ev.if_ (p := false) (Tr.cast (p := ((1 : Nat) : Int) == 2) ?_ rfl) (fun h => by cases h) (fun _ => ?_)) Evs.nil)) ?_) rfl
  all_goals repeat' (kst_all1)
theorem as_complex2_ok (v u l k : D) (hv : v.deep = true) (hu : u.deep = true) : CallOk 1 (.ref 237) [k, .lst [v, u], l] (some (.tup [v, u])) := by
  refine CallOk.fn 41 ["kinds", "values", "limits"] g_as_complex rfl (by kbt_split) rfl rfl rfl rfl rfl (by simp [D.deep, D.deepAll, hv, hu]) (fun c hn hs => ?_)
  refine Exs.retd (Ev.tup (Evs.cons (d := v) ?_ (Evs.cons (d := u) (Ev.if_ (p := true) (Tr.cast (p := ((2 : Nat) : Int) == 2) ?_ rfl) (fun _ => ?_) (fun h => by cases h)) Evs.nil)) ?_) rfl
  all_goals repeat' (kst_all1)
theorem same_complex_ok (v l k : D) (vs : List D) (hv : v.deep = true) : CallOk 1 (.ref 244) [k, .lst (v :: vs), l] (some v) := by
  refine CallOk.fn 42 ["kinds", "values", "limits"] g_same_complex rfl (by kbt_split) rfl rfl rfl rfl rfl hv (fun c hn hs => ?_)
  repeat' (kst_all1)
  rfl
theorem cut_real_ok (x : Int × Int) (k wd : Int) (ks vs : List D) (hx : Md x) (hr : InR (toI x) 0) : CallOk 4 (.ref 251) [.lst (.int k :: ks), .lst (tupD x :: vs), .lim wd] (some (tupD (roundD (toI x) 0 (dg k)))) := by
  have con1 := real_to_int_ok x hx.small (by have := hx.hi; lia) (by have := hx.lo; lia)
  have con2 := round_real_ok (toI x) 0 (dg k) (dg_pos k) hr
  refine CallOk.fn 43 ["kinds", "values", "limits"] g_cut_real rfl (by kbt_split) rfl rfl rfl rfl rfl rfl (fun c hn hs => ?_)
  repeat' (first | exact con1 | exact con2 | kst_all1)
  rfl
theorem near_real_ok (x : Int × Int) (k wd : Int) (ks vs : List D) (hx : Md x) (hr : InR (halfI x) 0) : CallOk 4 (.ref 258) [.lst (.int k :: ks), .lst (tupD x :: vs), .lim wd] (some (tupD (roundD (halfI x) 0 (dg k)))) := by
  have con1 := half_up_ok x hx
  have con2 := round_real_ok (halfI x) 0 (dg k) (dg_pos k) hr
  refine CallOk.fn 44 ["kinds", "values", "limits"] g_near_real rfl (by kbt_split) rfl rfl rfl rfl rfl rfl (fun c hn hs => ?_)
  repeat' (first | exact con1 | exact con2 | kst_all1)
  rfl
theorem near_int_ok (x : Int × Int) (wd : Int) (k : D) (vs : List D) (hx : Md x) (h1 : 1 ≤ wd) (h2 : wd ≤ 64) : CallOk 5 (.ref 265) [k, .lst (tupD x :: vs), .lim wd] ((fitI (halfI x) wd).map D.int) := by
  have con1 := half_up_ok x hx
  have con2 := fit_int_c (halfI x) wd h1 h2
  refine CallOk.fno 45 ["kinds", "values", "limits"] g_near_int rfl (by kbt_split) rfl rfl rfl rfl rfl (fun d => optDeep) (fun c hn hs => ?_)
  generalize (fitI (halfI x) wd).map D.int = r at *
  repeat' (first | exact con1 | exact con2 | refine Exs.ret ?_ | kst_all1)
theorem without_sign_int_ok (n wd : Int) (ks vs : List D) (h1 : 1 ≤ wd) (h2 : wd ≤ 64) : CallOk 5 (.ref 272) [.lst (.int 0 :: ks), .lst (.int n :: vs), .lim wd] ((fitI n.natAbs wd).map D.int) := by
  have con2 := fit_int_c n.natAbs wd h1 h2
  refine CallOk.fno 46 ["kinds", "values", "limits"] g_without_sign rfl (by kbt_split) rfl rfl rfl rfl rfl (fun d => optDeep) (fun c hn hs => ?_)
  generalize (fitI n.natAbs wd).map D.int = r at *
  repeat' (first | exact con2 | refine Exs.ret ?_ | kst_all1)
theorem without_sign_real_ok (x : Int × Int) (k wd : Int) (ks vs : List D) (hk : k = 1 ∨ k = 2) : CallOk 5 (.ref 272) [.lst (.int k :: ks), .lst (tupD x :: vs), .lim wd] (some (tupD (x.1.natAbs, x.2))) := by
  rcases hk with rfl | rfl
  all_goals
    refine CallOk.fn 46 ["kinds", "values", "limits"] g_without_sign rfl (by kbt_split) rfl rfl rfl rfl rfl rfl (fun c hn hs => ?_)
    repeat' (kst_all1)
    rfl

theorem with_sign_int_ok (x y wd : Int) (ks vs : List D) (h1 : 1 ≤ wd) (h2 : wd ≤ 64) : CallOk 5 (.ref 286) [.lst (.int 0 :: ks), .lst [.int x, .int y], .lim wd] ((fitI (if decide (y ≥ 0) then (x.natAbs : Int) else -(x.natAbs : Int)) wd).map D.int) := by
  have con2 := fit_int_c (if decide (y ≥ 0) then (x.natAbs : Int) else -(x.natAbs : Int)) wd h1 h2
  refine CallOk.fno 48 ["kinds", "values", "limits"] g_with_sign rfl (by kbt_split) rfl rfl rfl rfl rfl (fun d => optDeep) (fun c hn hs => ?_)
  generalize (fitI (if decide (y ≥ 0) then (x.natAbs : Int) else -(x.natAbs : Int)) wd).map D.int = r at *
  refine Exs.tup2L (d1 := .int x) (d2 := .int y) ?_ (by assumption) rfl rfl ?_
  · repeat' (kst_all1)
  repeat' (first | exact con2 | refine Exs.ret ?_ | refine' Ev.iteI ?_ ?_ ?_ | kst_all1)
end
section
set_option hygiene false in
local macro_rules | `(tactic| k_ownIn) => `(tactic| first | exact real_neg_ok _ _ | exact digits_of_ok' _ _ | exact order_of_ok _ _)
theorem with_sign_real_ok (x y : Int × Int) (k wd : Int) (ks : List D) (hk : k = 1 ∨ k = 2) : CallOk 5 (.ref 286) [.lst (.int k :: ks), .lst [tupD x, tupD y], .lim wd] (some (tupD ((if decide (y.1 ≥ 0) then (x.1.natAbs : Int) else -(x.1.natAbs : Int)), x.2))) := by
  rcases hk with rfl | rfl
  all_goals
    refine CallOk.fn 48 ["kinds", "values", "limits"] g_with_sign rfl (by kbt_split) rfl rfl rfl rfl rfl rfl (fun c hn hs => ?_)
    refine Exs.tup2L (d1 := tupD x) (d2 := tupD y) ?_ (by assumption) rfl rfl ?_
    · repeat' (kst_all1)
    repeat' (kst_all1)
    cases decide (y.1 ≥ 0) <;> rfl
theorem rest_of_int_ok (x y wd : Int) (ks : List D) (hy : y ≠ 0) (hl : y.natAbs.log2 < 9000) (hm : IntMulOk (cutI x y) y) : CallOk 4 (.ref 279) [.lst (.int 0 :: ks), .lst [.int x, .int y], .lim wd] (some (.int (x - cutI x y * y))) := by
  have con1 := cut_quotient_ok x y hy hl
  have hy0 : (y == 0) = false := by simpa using hy
  refine CallOk.fn 47 ["kinds", "values", "limits"] g_rest_of rfl (by kbt_split) rfl rfl rfl rfl rfl rfl (fun c hn hs => ?_)
  refine Exs.tup2L (d1 := .int x) (d2 := .int y) ?_ (by assumption) rfl rfl ?_
  · repeat' (kst_all1)
  repeat' (first | exact con1 | exact hm | kst_all1)
  · rw [hy0] at hif; cases hif
  · rfl
theorem rest_of_int_raise (x wd : Int) (ks : List D) : CallOk 4 (.ref 279) [.lst (.int 0 :: ks), .lst [.int x, .int 0], .lim wd] none := by
  refine CallOk.fnr 47 ["kinds", "values", "limits"] g_rest_of rfl (by kbt_split) rfl rfl rfl rfl rfl (fun c hn hs => ?_)
  refine Exs.tup2L (d1 := .int x) (d2 := .int 0) ?_ (by assumption) rfl rfl ?_
  · repeat' (kst_all1)
  repeat' (kst_all1)
noncomputable
def overI (x y : Int × Int) : Int := x.1 * 10 ^ (x.2 - min x.2 y.2).toNat
noncomputable
def underI (x y : Int × Int) : Int := y.1 * 10 ^ (y.2 - min x.2 y.2).toNat
theorem rest_of_real_ok (x y : Int × Int) (k wd : Int) (ks : List D) (hk : k = 1 ∨ k = 2) (hx : Md x) (hy : Md y) (h0 : y.1 ≠ 0) (hl : (underI x y).natAbs.log2 < 9000)
    (hm : IntMulOk (cutI (overI x y) (underI x y)) (underI x y)) (hr : InR (overI x y - cutI (overI x y) (underI x y) * underI x y) (min x.2 y.2)) :
    CallOk 4 (.ref 279) [.lst (.int k :: ks), .lst [tupD x, tupD y], .lim wd] (some (tupD (roundD (overI x y - cutI (overI x y) (underI x y) * underI x y) (min x.2 y.2) (dg k)))) := by
  have hu : underI x y ≠ 0 := Int.mul_ne_zero h0 (Int.ne_of_gt (pow10_pos _))
  have con1 := cut_quotient_ok (overI x y) (underI x y) hu hl
  have con2 := round_real_ok _ _ (dg k) (dg_pos k) hr
  have hy0 : (y.1 == 0) = false := by simpa using h0
  have mx := mulOk_pow (k := (x.2 - min x.2 y.2).toNat) hx.small (by have := hx.hi; have := hy.lo; have := hx.lo; lia)
  have my := mulOk_pow (k := (y.2 - min x.2 y.2).toNat) hy.small (by have := hy.hi; have := hx.lo; have := hy.lo; lia)
  have b1 := hx.lo; have b2 := hx.hi; have b3 := hy.lo; have b4 := hy.hi
  rcases hk with rfl | rfl
  all_goals
    refine CallOk.fn 47 ["kinds", "values", "limits"] g_rest_of rfl (by kbt_split) rfl rfl rfl rfl rfl rfl (fun c hn hs => ?_)
    refine Exs.tup2L (d1 := tupD x) (d2 := tupD y) ?_ (by assumption) rfl rfl ?_
    · repeat' (kst_all1)
    have con1 : CallOk 1 (.ref 89) [.int (x.1 * 10 ^ (x.2 - min x.2 y.2).toNat), .int (y.1 * 10 ^ (y.2 - min x.2 y.2).toNat)] (some (.int (cutI (overI x y) (underI x y)))) := con1
    repeat' (first | exact con1 | exact con2 | exact mx | exact my | exact hm | kst_all1)
    all_goals first | lia | decide | (rw [hy0] at hif; cases hif) | rfl
theorem rest_of_real_raise (x y : Int × Int) (k wd : Int) (ks : List D) (hk : k = 1 ∨ k = 2) (h0 : y.1 = 0) : CallOk 4 (.ref 279) [.lst (.int k :: ks), .lst [tupD x, tupD y], .lim wd] none := by
  unfold tupD
  rw [h0]
  rcases hk with rfl | rfl
  all_goals
    refine CallOk.fnr 47 ["kinds", "values", "limits"] g_rest_of rfl (by kbt_split) rfl rfl rfl rfl rfl (fun c hn hs => ?_)
    refine Exs.tup2L (d1 := tupD x) (d2 := .tup [.int 0, .int y.2]) ?_ (by assumption) rfl rfl ?_
    · repeat' (kst_all1)
    repeat' (kst_all1)
theorem compare_int_ok (x y : Int) : CallOk 3 (.ref 293) [.int 0, .int x, .int y] (some (.int (orderI x y))) := by
  refine CallOk.fn 49 ["kind", "x", "y"] g_compare_numbers rfl (by kbt_split) rfl rfl rfl rfl rfl rfl (fun c hn hs => ?_)
  repeat' (kst_all1)
  rfl
theorem compare_real_ok (x y : Int × Int) (k : Int) (hk : k = 1 ∨ k = 2) (h : Near x y) : CallOk 3 (.ref 293) [.int k, tupD x, tupD y] (some (.int (cmpI x y))) := by
  have con1 := real_compare_ok x y h
  rcases hk with rfl | rfl
  all_goals
    refine CallOk.fn 49 ["kind", "x", "y"] g_compare_numbers rfl (by kbt_split) rfl rfl rfl rfl rfl rfl (fun c hn hs => ?_)
    repeat' (first | exact con1 | kst_all1)
    rfl
theorem difference_int_ok (x y wd : Int) (ks : List D) (h1 : 1 ≤ wd) (h2 : wd ≤ 64) : CallOk 5 (.ref 300) [.lst (.int 0 :: ks), .lst [.int x, .int y], .lim wd] (if decide (orderI x y ≤ 0) then some (.int 0) else (fitI (x - y) wd).map D.int) := by
  have con1 := compare_int_ok x y
  have con2 := fit_int_c (x - y) wd h1 h2
  refine CallOk.fno 50 ["kinds", "values", "limits"] g_difference rfl (by kbt_split) rfl rfl rfl rfl rfl (fun d hd => ?_) (fun c hn hs => ?_)
  · split at hd
    · cases hd; rfl
    · exact optDeep hd
  generalize (fitI (x - y) wd).map D.int = r at *
  generalize orderI x y = o at *
  refine Exs.tup2L (d1 := .int x) (d2 := .int y) ?_ (by assumption) rfl rfl ?_
  · repeat' (kst_all1)
  refine Exs.if_ (p := decide (o ≤ 0)) ?_ (fun hif => ?_) (fun hif => ?_)
  · repeat' (first | exact con1 | kst_all1)
  · rw [hif]
    show Exs _ _ _ (.ret (.int 0))
    repeat' (first | refine' Ev.if_ ?_ ?_ ?_ | kst_all1)
    rfl
  · rw [hif]
    show Exs _ _ _ (outOf r)
    repeat' (first | exact con2 | refine Exs.ret ?_ | kst_all1)
theorem double_product_ok (x y : Int × Int) (k : D) (wd : Int) (hm : IntMulOk x.1 y.1) (hr : InR (x.1 * y.1) (x.2 + y.2)) : CallOk 4 (.ref 307) [k, .lst [tupD x, tupD y], .lim wd] (some (tupD (roundD (x.1 * y.1) (x.2 + y.2) 9))) := by
  have con1 := exact_mul_ok x.1 x.2 y.1 y.2 hm
  have con2 := round_real_ok _ _ 9 (by decide) hr
  refine CallOk.fn 51 ["kinds", "values", "limits"] g_double_product rfl (by kbt_split) rfl rfl rfl rfl rfl rfl (fun c hn hs => ?_)
  refine Exs.tup2 (d1 := .int (x.1 * y.1)) (d2 := .int (x.2 + y.2)) ?_ (by assumption) rfl rfl ?_
  · repeat' (first | exact con1 | kst_all1)
  repeat' (first | exact con2 | kst_all1)
  rfl
end
section
set_option hygiene false in
local macro_rules | `(tactic| k_ownIn) => `(tactic| first | exact real_neg_ok _ _ | exact digits_of_ok' _ _ | exact order_of_ok _ _)
theorem difference_real_ok (x y : Int × Int) (k wd : Int) (ks : List D) (hk : k = 1 ∨ k = 2) (h : Near x y) (hr : InR (addI x (-y.1, y.2)).1 (addI x (-y.1, y.2)).2) :
    CallOk 5 (.ref 300) [.lst (.int k :: ks), .lst [tupD x, tupD y], .lim wd] (some (if decide (cmpI x y ≤ 0) then tupD (0, 0) else tupD (roundD (addI x (-y.1, y.2)).1 (addI x (-y.1, y.2)).2 (dg k)))) := by
  have con1 := compare_real_ok x y k hk h
  have con2 := real_sub_ok x y (dg k) (dg_pos k) h hr
  rcases hk with rfl | rfl
  all_goals
    refine CallOk.fn 50 ["kinds", "values", "limits"] g_difference rfl (by kbt_split) rfl rfl rfl rfl rfl (by split <;> rfl) (fun c hn hs => ?_)
    generalize cmpI x y = o at *
    refine Exs.tup2L (d1 := tupD x) (d2 := tupD y) ?_ (by assumption) rfl rfl ?_
    · repeat' (kst_all1)
    refine Exs.if_ (p := decide (o ≤ 0)) ?_ (fun hif => ?_) (fun hif => ?_)
    · repeat' (first | exact con1 | kst_all1)
    · rw [hif]
      repeat' (first | refine' Ev.if_ ?_ ?_ ?_ | kst_all1)
      rfl
    · rw [hif]
      repeat' (first | exact con2 | kst_all1)
      rfl
theorem Exs.nilS {c : Cx} {ρ ρ' : List (Str × D)} (h : Sub ρ ρ') : Exs c ρ [] (.next ρ') := ⟨fun O s Q E F hq => wpAny_execs_nil (hq.1 ρ' s rfl (.refl _ _) (.refl _) (F.sub h))⟩
/-- the first of the best -/
noncomputable
def extI (cmp : D → D → Int) (o : Int) : D → List D → D
  | b, [] => b
  | b, v :: vs => extI cmp o (if cmp v b == o then v else b) vs
theorem extI_drop (cmp : D → D → Int) (o : Int) : ∀ (vs : List D) (b : D) (i : Nat) (d : D), vs[i]? = some d → (if cmp d (extI cmp o b (vs.take i)) == o then d else extI cmp o b (vs.take i)) = extI cmp o b (vs.take (i + 1))
  | [], b, i, d, h => by simp at h
  | v :: vs, b, 0, d, h => by simp at h; subst h; simp [extI]
  | v :: vs, b, i + 1, d, h => by
    have := extI_drop cmp o vs (if cmp v b == o then v else b) i d (by simpa using h)
    simpa [extI] using this
theorem extI_mem (cmp : D → D → Int) (o : Int) : ∀ (vs : List D) (b : D), extI cmp o b vs = b ∨ extI cmp o b vs ∈ vs
  | [], b => .inl rfl
  | v :: vs, b => by
    rcases extI_mem cmp o vs (if cmp v b == o then v else b) with h | h
    · rw [extI, h]
      split
      · exact .inr (.head _)
      · exact .inl rfl
    · exact .inr (.tail _ h)
theorem extreme_ok (k o : Int) (cmp : D → D → Int) (v : D) (vs : List D) (hv : ∀ d ∈ v :: vs, d.deep = true) (hc : ∀ a ∈ v :: vs, ∀ b ∈ v :: vs, CallOk 3 (.ref 293) [.int k, a, b] (some (.int (cmp a b)))) :
    CallOk 4 (.ref 314) [.int k, .lst (v :: vs), .int o] (some (extI cmp o v (v :: vs))) := by
  have hmem : ∀ i, extI cmp o v ((v :: vs).take i) ∈ v :: vs := fun i => by
    rcases extI_mem cmp o ((v :: vs).take i) v with h | h
    · rw [h]; exact .head _
    · exact List.mem_of_mem_take h
  have hmem' : extI cmp o v (v :: vs) ∈ v :: vs := by have := hmem (vs.length + 1); rwa [List.take_of_length_le (by simp)] at this
  refine CallOk.fn 52 ["kind", "values", "order"] g_extreme rfl (by kbt_split) rfl rfl rfl rfl rfl (hv _ hmem') (fun c hn hs => ?_)
  refine Exs.assign (d := v) ?_ (by assumption) rfl ?_
  · repeat' (kst_all1)
  refine Exs.forL (ds := v :: vs) (fun i => [(Str.ofString "best", extI cmp o v ((v :: vs).take i)), (Str.ofString "kind", .int k), (Str.ofString "order", .int o)]) (Ev.loc (by assumption) rfl rfl) (by assumption) rfl ⟨rfl, rfl, rfl, trivial⟩ ?_ ?_
  · intro i d hd
    have con1 := hc d (List.mem_of_getElem? hd) _ (hmem i)
    refine ⟨[(Str.ofString "best", extI cmp o v ((v :: vs).take (i + 1))), (Str.ofString "kind", .int k), (Str.ofString "order", .int o)], ?_, ⟨rfl, rfl, rfl, trivial⟩⟩
    have hx := extI_drop cmp o (v :: vs) v i d hd
    rw [← hx]
    generalize extI cmp o v ((v :: vs).take i) = b at *
    generalize cmp d b = q at *
    refine Exs.if_ (p := q == o) ?_ (fun hif => ?_) (fun hif => ?_)
    · repeat' (first | exact con1 | kst_all1)
    · rw [hif]
      refine Exs.appCons (Exs.assign (d := d) (Ev.loc (by assumption) rfl rfl) (by assumption) rfl (Exs.appNil (Exs.nilS ⟨rfl, rfl, rfl, trivial⟩)))
    · rw [hif]
      exact Exs.appNil (Exs.nilS ⟨rfl, rfl, rfl, trivial⟩)
  · rw [List.take_of_length_le (Nat.le_refl _)]
    repeat' (kst_all1)
    rfl

theorem greatest_c (k : Int) (ks : List D) (vs l r : D) (hr : r.deep = true) (con1 : CallOk 4 (.ref 314) [.int k, vs, .int 1] (some r)) : CallOk 5 (.ref 321) [.lst (.int k :: ks), vs, l] (some r) := by
  refine CallOk.fn 53 ["kinds", "values", "limits"] g_greatest rfl (by kbt_split) rfl rfl rfl rfl rfl hr (fun c hn hs => ?_)
  repeat' (first | exact con1 | kst_all1)
  rfl
theorem least_c (k : Int) (ks : List D) (vs l r : D) (hr : r.deep = true) (con1 : CallOk 4 (.ref 314) [.int k, vs, .int (-1)] (some r)) : CallOk 5 (.ref 328) [.lst (.int k :: ks), vs, l] (some r) := by
  refine CallOk.fn 54 ["kinds", "values", "limits"] g_least rfl (by kbt_split) rfl rfl rfl rfl rfl hr (fun c hn hs => ?_)
  repeat' (first | exact con1 | kst_all1)
  rfl
theorem greatest_as_real_c (n wd : Int) (ks vs : D) (hr : InR n 0) (con1 : CallOk 4 (.ref 314) [.int 0, vs, .int 1] (some (.int n))) : CallOk 7 (.ref 335) [ks, vs, .lim wd] (some (tupD (roundD n 0 4))) := by
  have con2 := convert_int_real_ok n wd hr
  refine CallOk.fn 55 ["kinds", "values", "limits"] g_greatest_as_real rfl (by kbt_split) rfl rfl rfl rfl rfl rfl (fun c hn hs => ?_)
  repeat' (first | exact con1 | exact con2 | kst_all1)
  rfl
theorem least_as_real_c (n wd : Int) (ks vs : D) (hr : InR n 0) (con1 : CallOk 4 (.ref 314) [.int 0, vs, .int (-1)] (some (.int n))) : CallOk 7 (.ref 342) [ks, vs, .lim wd] (some (tupD (roundD n 0 4))) := by
  have con2 := convert_int_real_ok n wd hr
  refine CallOk.fn 56 ["kinds", "values", "limits"] g_least_as_real rfl (by kbt_split) rfl rfl rfl rfl rfl rfl (fun c hn hs => ?_)
  repeat' (first | exact con1 | exact con2 | kst_all1)
  rfl
theorem greatest_as_int_c (x : Int × Int) (wd : Int) (ks vs : D) (hx : Md x) (h1 : 1 ≤ wd) (h2 : wd ≤ 64) (con1 : CallOk 4 (.ref 314) [.int 1, vs, .int 1] (some (tupD x))) : CallOk 7 (.ref 349) [ks, vs, .lim wd] ((fitI (toI x) wd).map D.int) := by
  have con2 := convert_real_int_ok x 1 wd (.inl rfl) hx h1 h2
  refine CallOk.fno 57 ["kinds", "values", "limits"] g_greatest_as_int rfl (by kbt_split) rfl rfl rfl rfl rfl (fun d => optDeep) (fun c hn hs => ?_)
  generalize (fitI (toI x) wd).map D.int = r at *
  repeat' (first | exact con1 | exact con2 | refine Exs.ret ?_ | kst_all1)
theorem least_as_int_c (x : Int × Int) (wd : Int) (ks vs : D) (hx : Md x) (h1 : 1 ≤ wd) (h2 : wd ≤ 64) (con1 : CallOk 4 (.ref 314) [.int 1, vs, .int (-1)] (some (tupD x))) : CallOk 7 (.ref 356) [ks, vs, .lim wd] ((fitI (toI x) wd).map D.int) := by
  have con2 := convert_real_int_ok x 1 wd (.inl rfl) hx h1 h2
  refine CallOk.fno 58 ["kinds", "values", "limits"] g_least_as_int rfl (by kbt_split) rfl rfl rfl rfl rfl (fun d => optDeep) (fun c hn hs => ?_)
  generalize (fitI (toI x) wd).map D.int = r at *
  repeat' (first | exact con1 | exact con2 | refine Exs.ret ?_ | kst_all1)
theorem second_part_ok (k v u l : D) (vs : List D) (hu : u.deep = true) : CallOk 1 (.ref 363) [k, .lst (.tup [v, u] :: vs), l] (some u) := by
  refine CallOk.fn 59 ["kinds", "values", "limits"] g_second_part rfl (by kbt_split) rfl rfl rfl rfl rfl hu (fun c hn hs => ?_)
  repeat' (kst_all1)
  rfl
theorem conjugate_ok (k l : D) (x y : Int × Int) (vs : List D) : CallOk 2 (.ref 370) [k, .lst (.tup [tupD x, tupD y] :: vs), l] (some (.tup [tupD x, tupD (-y.1, y.2)])) := by
  refine CallOk.fn 60 ["kinds", "values", "limits"] g_conjugate rfl (by kbt_split) rfl rfl rfl rfl rfl rfl (fun c hn hs => ?_)
  repeat' (kst_all1)
  rfl
end
section
noncomputable
def orderS (x y : Str) : Int := if x == y then 0 else if decide (x.cps.toList < y.cps.toList) then -1 else 1
theorem order_of_str_ok (x y : Str) : CallOk 1 (.ref 96) [.str x, .str y] (some (.int (orderS x y))) := by
  refine CallOk.fn 16 ["x", "y"] g_order_of rfl (by kbt_split) rfl rfl rfl rfl rfl rfl (fun c hn hs => ?_)
  repeat' (first | exact cmp_eqS | exact cmp_ltS | kst_all1)
  · rw [orderS, hif]; rfl
  · rw [orderS, hif, ite_int]; rfl
noncomputable
def blanks (n : Int) : Str := ⟨(List.replicate n.toNat 32).toArray⟩
noncomputable
def collI (x y : Str) : Int := orderS (x ++ blanks (max (x.length : Int) y.length - x.length)) (y ++ blanks (max (x.length : Int) y.length - y.length))
theorem collate_ok (x y : Str) (hx : x.length ≤ 100) (hy : y.length ≤ 100) : CallOk 2 (.ref 188) [.str x, .str y] (some (.int (collI x y))) := by
  have con1 := order_of_str_ok (x ++ blanks (max (x.length : Int) y.length - x.length)) (y ++ blanks (max (x.length : Int) y.length - y.length))
  refine CallOk.fn 32 ["x", "y"] g_collate rfl (by kbt_split) rfl rfl rfl rfl rfl rfl (fun c hn hs => ?_)
  have hb : ∀ n, (blanks n).length = n.toNat := fun n => by simp [blanks, Str.length]
  have a1 : ∀ {w A}, BinOk w A .Add (.str x) (.str (blanks (max (x.length : Int) y.length - x.length))) (.str (x ++ blanks (max (x.length : Int) y.length - x.length))) := bin_addS (by rw [hb, sizeLine_eq]; lia)
  have a2 : ∀ {w A}, BinOk w A .Add (.str y) (.str (blanks (max (x.length : Int) y.length - y.length))) (.str (y ++ blanks (max (x.length : Int) y.length - y.length))) := bin_addS (by rw [hb, sizeLine_eq]; lia)
  have m1 : ∀ {w A}, BinOk w A .Mult (.str " ") (.int (max (x.length : Int) y.length - x.length)) (.str (blanks (max (x.length : Int) y.length - x.length))) := bin_mulS1 (c := 32) (by rfl) (by (first | lia | omega)) (by (first | (clear a2 a1 hb hs hn hy hx; lia) | lia | omega))
  have m2 : ∀ {w A}, BinOk w A .Mult (.str " ") (.int (max (x.length : Int) y.length - y.length)) (.str (blanks (max (x.length : Int) y.length - y.length))) := bin_mulS1 (c := 32) (by rfl) (by (first | lia | omega)) (by (first | lia | omega))
  unfold collI
  repeat' (first | exact con1 | exact a1 | exact a2 | exact m1 | exact m2 | refine' len_str_ok ?_ | kst_all1)
  all_goals first | lia | rfl
theorem code_of_ok (x : Str) (k l : D) (vs : List D) (hx : x.length = 1) : CallOk 3 (.ref 384) [k, .lst (.str x :: vs), l] (some (.int (x.cps.getD 0 0 : Nat))) := by
  have c1 : CallOk 0 (.builtin "len") [.str x] (some (.int 1)) := by have := len_str_ok (x := x) (by (first | lia | omega)); rw [hx] at this; exact this
  refine CallOk.fn 62 ["kinds", "values", "limits"] g_code_of rfl (by kbt_split) rfl rfl rfl rfl rfl rfl (fun c hn hs => ?_)
  repeat' (first | exact c1 | exact ord_ok hx | kst_all1)
  rfl
theorem code_of_raise (x : Str) (k l : D) (vs : List D) (hx : x.length ≠ 1) (hx2 : x.length < 100) : CallOk 3 (.ref 384) [k, .lst (.str x :: vs), l] none := by
  refine CallOk.fnr 62 ["kinds", "values", "limits"] g_code_of rfl (by kbt_split) rfl rfl rfl rfl rfl (fun c hn hs => ?_)
  refine Exs.if_ (p := ((x.length : Int) != 1)) ?_ (fun hif => ?_) (fun hif => ?_)
  · repeat' (first | refine' len_str_ok ?_ | kst_all1)
    lia
  · repeat' (kst_all1)
  · simp at hif; lia
theorem sign_of_code_ok (n : Int) (k l : D) (vs : List D) (h0 : 0 ≤ n) (h1 : n < 256) : CallOk 3 (.ref 391) [k, .lst (.int n :: vs), l] (some (.str ⟨#[n.toNat]⟩)) := by
  have c1 := chr_ok (a := n) h0 (by (first | lia | omega))
  refine CallOk.fn 63 ["kinds", "values", "limits"] g_sign_of_code rfl (by kbt_split) rfl rfl rfl rfl rfl rfl (fun c hn hs => ?_)
  refine Exs.if_ (p := (decide (n < 0) || (decide (n ≥ 256) || false))) ?_ (fun hif => ?_) (fun hif => ?_)
  · repeat' (kst_all1)
  · simp at hif; lia
  · repeat' (first | exact c1 | kst_all1)
    rfl
theorem sign_of_code_raise (n : Int) (k l : D) (vs : List D) (h : n < 0 ∨ 256 ≤ n) : CallOk 3 (.ref 391) [k, .lst (.int n :: vs), l] none := by
  refine CallOk.fnr 63 ["kinds", "values", "limits"] g_sign_of_code rfl (by kbt_split) rfl rfl rfl rfl rfl (fun c hn hs => ?_)
  refine Exs.if_ (p := (decide (n < 0) || (decide (n ≥ 256) || false))) ?_ (fun hif => ?_) (fun hif => ?_)
  · repeat' (kst_all1)
  · repeat' (kst_all1)
  · simp at hif; lia
theorem length_of_ok (x : Str) (k l : D) (vs : List D) (hx : x.length < 100) : CallOk 1 (.ref 398) [k, .lst (.str x :: vs), l] (some (.int x.length)) := by
  refine CallOk.fn 64 ["kinds", "values", "limits"] g_length_of rfl (by kbt_split) rfl rfl rfl rfl rfl rfl (fun c hn hs => ?_)
  repeat' (first | refine' len_str_ok ?_ | kst_all1)
  all_goals first | lia | rfl
theorem place_of_text_ok (x y : Str) (k l : D) (vs : List D) : CallOk 1 (.ref 405) [k, .lst (.str x :: .str y :: vs), l] (some (.int (Txt.find x y + 1))) := by
  refine CallOk.fn 65 ["kinds", "values", "limits"] g_place_of_text rfl (by kbt_split) rfl rfl rfl rfl rfl rfl (fun c hn hs => ?_)
  repeat' (first | refine' Ev.find ?_ ?_ | kst_all1)
  rfl
theorem is_not_below_ok (x y : Str) (k l : D) (vs : List D) (hx : x.length ≤ 100) (hy : y.length ≤ 100) : CallOk 3 (.ref 412) [k, .lst (.str x :: .str y :: vs), l] (some (.bool (decide (collI x y ≥ 0)))) := by
  have c1 := collate_ok x y hx hy
  refine CallOk.fn 66 ["kinds", "values", "limits"] g_is_not_below rfl (by kbt_split) rfl rfl rfl rfl rfl rfl (fun c hn hs => ?_)
  repeat' (first | exact c1 | kst_all1)
  rfl
theorem is_above_ok (x y : Str) (k l : D) (vs : List D) (hx : x.length ≤ 100) (hy : y.length ≤ 100) : CallOk 3 (.ref 419) [k, .lst (.str x :: .str y :: vs), l] (some (.bool (decide (collI x y > 0)))) := by
  have c1 := collate_ok x y hx hy
  refine CallOk.fn 67 ["kinds", "values", "limits"] g_is_above rfl (by kbt_split) rfl rfl rfl rfl rfl rfl (fun c hn hs => ?_)
  repeat' (first | exact c1 | kst_all1)
  rfl
theorem is_not_above_ok (x y : Str) (k l : D) (vs : List D) (hx : x.length ≤ 100) (hy : y.length ≤ 100) : CallOk 3 (.ref 426) [k, .lst (.str x :: .str y :: vs), l] (some (.bool (decide (collI x y ≤ 0)))) := by
  have c1 := collate_ok x y hx hy
  refine CallOk.fn 68 ["kinds", "values", "limits"] g_is_not_above rfl (by kbt_split) rfl rfl rfl rfl rfl rfl (fun c hn hs => ?_)
  repeat' (first | exact c1 | kst_all1)
  rfl
theorem is_below_ok (x y : Str) (k l : D) (vs : List D) (hx : x.length ≤ 100) (hy : y.length ≤ 100) : CallOk 3 (.ref 433) [k, .lst (.str x :: .str y :: vs), l] (some (.bool (decide (collI x y < 0)))) := by
  have c1 := collate_ok x y hx hy
  refine CallOk.fn 69 ["kinds", "values", "limits"] g_is_below rfl (by kbt_split) rfl rfl rfl rfl rfl rfl (fun c hn hs => ?_)
  repeat' (first | exact c1 | kst_all1)
  rfl
end
section
open PySem.NumText
theorem law_one_ok : CallOk 1 (.ref 447) [] (some (.int (10 ^ 40))) := by
  refine CallOk.fn 72 [] g_law_one rfl (by intro vs pm cd doc hv; rw [List.length_eq_zero_iff.mp hv]; rfl) rfl rfl rfl rfl rfl rfl (fun c hn hs => ?_)
  refine Exs.retd (Ev.bin Ev.int Ev.int (bin_pow (a := 10) (b := 40) (by decide) (by decide) (by decide))) rfl
theorem law_fixed_ok (x : Int × Int) (h : Md x) (h1 : -40 ≤ x.2) : CallOk 1 (.ref 468) [tupD x] (some (.int (FX x))) := by
  refine CallOk.fn 75 ["x"] g_law_fixed rfl (by kbt_split) rfl rfl rfl rfl rfl rfl (fun c hn hs => ?_)
  have := h.hi
  repeat' (kst_all1)
  all_goals first | omega | decide | exact mulOk_pow h.small (by (first | lia | omega)) | rfl
noncomputable
def lcut (n u : Int) : Int := if decide (n < 0) then -((-n).fdiv u) else n.fdiv u
theorem law_cut_ok (n u : Int) (hu : u ≠ 0) (hl : u.natAbs.log2 < 9000) : CallOk 1 (.ref 475) [.int n, .int u] (some (.int (lcut n u))) := by
  refine CallOk.fn 76 ["n", "unit"] g_law_cut rfl (by kbt_split) rfl rfl rfl rfl rfl rfl (fun c hn hs => ?_)
  repeat' (kst_all1)
  · exact hu
  · exact hl
  · exact hu
  · exact hl
  · exact ite_int
noncomputable
def orNone : Option Int → D
  | some i => .int i
  | none => .none
noncomputable
def lint (n most : Int) : Option Int := if decide (-most ≤ n) && decide (n < most) then some n else none
theorem law_int_ok (n most : Int) : CallOk 1 (.ref 482) [.int n, .int most] (some (orNone (lint n most))) := by
  refine CallOk.fn 77 ["n", "most"] g_law_int rfl (by kbt_split) rfl rfl rfl rfl rfl (by unfold lint; split <;> rfl) (fun c hn hs => ?_)
  repeat' (kst_all1)
  unfold lint
  split <;> rfl
theorem str_eq {x y : Str} : (x == y) = decide (x.cps.toList = y.cps.toList) := by
  rw [← toList_beq, Bool.eq_iff_iff]
  simp
theorem told_pre (N d : Nat) (hd : 1 ≤ d) (hd2 : d ≤ 100) (hn : cd N ≤ 400) : ∃ tx ks rs : Str, CallOk 0 (.type "str") [.int N] (some (.str tx)) ∧ tx.length = (dig N).length ∧ tx.length ≤ 400 ∧ Txt.slice tx none (some (d : Int)) = ks ∧ Txt.slice tx (some (d : Int)) none = rs ∧
    CallOk 0 (.type "int") [.str ks] (some (.int (N / 10 ^ (cd N - d) : Nat))) ∧ rs.cps.toList = (dig N).drop d ∧ rs.length = ((dig N).drop d).length := by
  have hL := dig_length N
  have htl : (Str.ofString (toString (N : Int))).cps.toList = dig N := dig_text N
  have htn : (Str.ofString (toString (N : Int))).length = (dig N).length := by rw [← htl]; simp [Str.length]
  have hlg : ((N : Int)).natAbs.log2 < 1920 := by
    have h1 : N < 10 ^ 400 := Nat.lt_of_lt_of_le (lt_cd N) (Nat.pow_le_pow_right (by decide) hn)
    have h2 : (10 : Nat) ^ 400 ≤ 16 ^ 400 := Nat.pow_le_pow_left (by decide) 400
    rw [show (16 : Nat) = 2 ^ 4 by decide, ← Nat.pow_mul] at h2
    by_cases h0 : N = 0
    · subst h0; decide
    · exact Nat.lt_of_lt_of_le ((Nat.log2_lt h0).mpr (Nat.lt_of_lt_of_le h1 h2)) (by decide)
  have con1 : CallOk 0 (.type "str") [.int N] (some (.str (Str.ofString (toString (N : Int))))) := str_int_ok hlg
  generalize Str.ofString (toString (N : Int)) = tx at *
  obtain ⟨k1, k2⟩ := told_kept N d hd
  have hrl : (Txt.slice tx (some (d : Int)) none).cps.toList = (dig N).drop d := by rw [slice_from, htl]
  refine ⟨tx, _, _, con1, htn, by (first | (clear hrl k2 k1 htl hlg hd2 hd; lia) | lia | omega), rfl, rfl, ?_, hrl, by rw [← hrl]; simp [Str.length]⟩
  refine int_text_ok ?_ (Nat.le_trans (Txt.slice_le _ _ _) (by (first | (clear hrl k2 k1 htl hlg hd2 hd; lia) | lia | omega)))
  have := intText_digits (x := Txt.slice tx none (some (d : Int))) (by rw [slice_to, htl]; exact fun c hc => dig_all N c (List.mem_of_mem_take hc)) (by
    rw [slice_to, htl]
    intro e
    have := congrArg List.length e
    rw [List.length_take, List.length_nil] at this
    lia) (Nat.le_trans (Txt.slice_le _ _ _) (by (first | (clear hrl k2 k1 htl hlg hd2 hd; lia) | lia | omega)))
  rw [this, slice_to, htl, k1]
theorem Exs.weaken {c : Cx} {ρ ρ' : List (Str × D)} {b : List Stmt} {o : Out} (hs : Sub ρ ρ') (h : Exs c ρ' b o) : Exs c ρ b o := ⟨fun O s Q E F hq => h.go O s Q E (F.sub hs) hq⟩
theorem law_told_ok (n : Int) (d : Nat) (hd : 1 ≤ d) (hd2 : d ≤ 100) (hn : cd n.natAbs ≤ 400) : CallOk 1 (.ref 461) [.int n, .int d] (some (tupD (told n d))) := by
  obtain ⟨tx, ks, rs, con1, htn, htx, hks, hrs, con2, hrl, hrn⟩ := told_pre n.natAbs d hd hd2 hn
  have con0 := abs_ok (a := n)
  have hL := dig_length n.natAbs
  have hmax : max ((tx.length : Int) - d) 0 - 40 = ((cd n.natAbs - d : Nat) : Int) - 40 := by rw [htn]; (first | (clear hrn hrl hrs hks htx htn hn hd2; lia) | lia | omega)
  have hcond := told_cond n.natAbs d hd
  have hres : told n d = strip (sg n (up n.natAbs (10 ^ (cd n.natAbs - d)))) (-40 + (cd n.natAbs - d : Nat)) := rfl
  rw [(told_kept n.natAbs d hd).1, ← hrl] at hcond
  rw [hres]
  have hup : up n.natAbs (10 ^ (cd n.natAbs - d)) = if (10 ^ (cd n.natAbs - d) < 2 * (n.natAbs % 10 ^ (cd n.natAbs - d)) ∨ 2 * (n.natAbs % 10 ^ (cd n.natAbs - d)) = 10 ^ (cd n.natAbs - d) ∧ n.natAbs / 10 ^ (cd n.natAbs - d) % 2 = 1) then n.natAbs / 10 ^ (cd n.natAbs - d) + 1 else n.natAbs / 10 ^ (cd n.natAbs - d) := rfl
  simp only [← hcond] at hup
  have hz : 0 < n.natAbs ∨ up n.natAbs (10 ^ (cd n.natAbs - d)) = 0 := by
    by_cases h0 : n.natAbs = 0
    · right; rw [h0, cd_zero, Nat.zero_sub, Nat.pow_zero, up_one]
    · left; lia
  generalize up n.natAbs (10 ^ (cd n.natAbs - d)) = K at *
  generalize n.natAbs / 10 ^ (cd n.natAbs - d) = q at *
  generalize cd n.natAbs - d = a at *
  have hrl2 : rs.length ≤ 400 := by rw [hrn, List.length_drop, ← htn]; (first | (clear hcond hres hmax hup hz hL hrn hrl hrs hks htn hn hd2 hd; lia) | lia | omega)
  have hrl3 : rs.length = rs.cps.toList.length := by simp [Str.length]
  clear hrn hn hcond hres hrl
  refine CallOk.fn 74 ["n", "digits"] g_law_told rfl (by kbt_split) rfl rfl rfl rfl rfl rfl (fun c hcn hs => ?_)
  refine Exs.assign (d := .str tx) (Ev.call (e_str (by assumption) rfl) (Evs.cons (Ev.call (e_abs (by assumption) rfl) (Evs.cons (Ev.loc (by assumption) rfl rfl) Evs.nil) con0 (Nat.zero_le _)) Evs.nil) con1 (Nat.zero_le _)) (by assumption) rfl ?_
  refine Exs.swap3 (d1 := .int (q : Int)) (d2 := .str rs) (d3 := .int ((a : Int) - 40)) (Evs.cons ?_ (Evs.cons ?_ (Evs.cons ?_ Evs.nil))) (by assumption) rfl rfl rfl ?_ ?_
  · refine Ev.call (e_int (by assumption) rfl) (Evs.cons (d := .str ks) ?_ Evs.nil) con2 (Nat.zero_le _)
    rw [← hks]
    exact Ev.slTo (Ev.loc (by assumption) rfl rfl) (Ev.loc (by assumption) rfl rfl) (by rw [sizeLine_eq]; lia)
  · rw [← hrs]
    exact Ev.slFrom (Ev.loc (by assumption) rfl rfl) (Ev.loc (by assumption) rfl rfl) (by rw [sizeLine_eq]; lia)
  · rw [← hmax]
    repeat' (first | refine' len_str_ok ?_ | kst_all1)
    lia
  · intro env h1 h2 h3 h4
    exact swapped3 h1 h2 h3 h4 rfl (by decide +kernel) rfl rfl rfl
  have hhl : (Str.ofString "5" ++ (⟨(List.replicate ((rs.length : Int) - 1).toNat 48).toArray⟩ : Str)).cps.toList = halfL rs.cps.toList.length := by
    unfold halfL
    rw [show ((rs.length : Int) - 1).toNat = rs.cps.toList.length - 1 by (first | lia | omega)]
    show ((Str.ofString "5").cps ++ _).toList = _
    rw [Array.toList_append]
    rfl
  have hm : ∀ {w A}, BinOk w A .Mult (.str "0") (.int ((rs.length : Int) - 1)) (.str (⟨(List.replicate ((rs.length : Int) - 1).toNat 48).toArray⟩ : Str)) := bin_mulS1 (c := 48) (by rfl) (by (first | lia | omega)) (by (first | lia | omega))
  have ha : ∀ {w A}, BinOk w A .Add (.str "5") (.str (⟨(List.replicate ((rs.length : Int) - 1).toNat 48).toArray⟩ : Str)) (.str (Str.ofString "5" ++ (⟨(List.replicate ((rs.length : Int) - 1).toNat 48).toArray⟩ : Str))) := bin_addS (by
    rw [sizeLine_eq]
    have : (⟨(List.replicate ((rs.length : Int) - 1).toNat 48).toArray⟩ : Str).length = ((rs.length : Int) - 1).toNat := by simp [Str.length]
    rw [this]
    have : (Str.ofString "5").length = 1 := rfl
    lia)
  generalize (Str.ofString "5" ++ (⟨(List.replicate ((rs.length : Int) - 1).toNat 48).toArray⟩ : Str)) = hf at *
  refine Exs.assign (d := .str hf) ?_ (by assumption) rfl ?_
  · repeat' (first | exact ha | exact hm | refine' len_str_ok ?_ | kst_all1)
    lia
  have hstr : ∀ x y : Str, (x == y) = decide (x.cps.toList = y.cps.toList) := fun x y => str_eq
  refine Exs.if_ (p := decide (rs.cps.toList ≠ [] ∧ (halfL rs.cps.toList.length < rs.cps.toList ∨ rs.cps.toList = halfL rs.cps.toList.length ∧ q % 2 = 1))) ?_ (fun hif => ?_) (fun hif => ?_)
  · refine Tr.cast (p := (rs != Str.ofString "") && ((decide (hf.cps.toList < rs.cps.toList) || (((rs == hf) && ((((q : Int).fmod 2) == 1) && true)) || false)) && true)) ?_ ?_
    · repeat' (first | exact cmp_neS | exact cmp_gtS | exact cmp_eqS | kst_all1)
      decide
    · rw [Bool.eq_iff_iff]
      rw [hstr, bne, hstr, hhl]
      rw [Int.fmod_eq_emod_of_nonneg _ (by decide)]
      simp only [Bool.and_true, Bool.or_false, Bool.and_eq_true, Bool.or_eq_true, Bool.not_eq_true', decide_eq_true_eq, decide_eq_false_iff_not, beq_iff_eq]
      have e0 : (Str.ofString "").cps.toList = [] := rfl
      rw [e0]
      have e1 : ((q : Int) % 2 = 1) ↔ (q % 2 = 1) := by (first | lia | omega)
      rw [e1]
  case' refine_5.refine_2.refine_2 =>
    rw [if_pos (by simpa using hif)] at hup
    refine Exs.appCons (Exs.aug (d := .int K) (by assumption) rfl rfl Ev.int (by rw [hup]; exact aug_add) (Exs.appNil (Exs.weaken (ρ' := [(Str.ofString "kept", .int K), (Str.ofString "e", .int ((a : Int) - 40)), (Str.ofString "n", .int n)]) ⟨rfl, rfl, rfl, trivial⟩ ?_)))
  case' refine_5.refine_2.refine_3 =>
    rw [if_neg (by simpa using hif)] at hup
    refine Exs.appNil (Exs.weaken (ρ' := [(Str.ofString "kept", .int K), (Str.ofString "e", .int ((a : Int) - 40)), (Str.ofString "n", .int n)]) ⟨by rw [hup]; rfl, rfl, rfl, trivial⟩ ?_)
  all_goals
    clear hup hif hstr ha hm hhl hrl3 hrl2 con2 hmax con0 hL htn htx hks hrs con1
    refine Exs.if_ (p := ((K : Int) == 0)) (Tr.cmp (Ev.loc (by assumption) rfl rfl) Ev.int cmp_eq) (fun hif => ?_) (fun hif => ?_)
    · have hK : K = 0 := by simpa using hif
      subst hK
      have hsg : sg n 0 = 0 := by unfold sg; split <;> rfl
      rw [hsg, strip_zero]
      repeat' (kst_all1)
      rfl
    · have hK : K ≠ 0 := by simpa using hif
      have hn0 : 0 < n.natAbs := by (first | lia | omega)
      refine Exs.appNil (Exs.while_ (σ := Int × Int) (fun x => [(Str.ofString "kept", .int x.1), (Str.ofString "e", .int x.2), (Str.ofString "n", .int n)]) (fun x => x.1 ≠ 0 ∧ stripF x.1.natAbs x.1 x.2 = strip K ((a : Int) - 40)) (fun x => x.1.natAbs) (fun x => x.1.fmod 10 == 0) (fun x => (x.1.fdiv 10, x.2 + 1)) (K, (a : Int) - 40)
        ⟨by dsimp only; lia, by rw [strip_ne (by (first | lia | omega))]⟩ ⟨rfl, rfl, rfl, trivial⟩ ?_ ?_ ?_)
      · rintro ⟨x, y⟩ hx
        dsimp only
        repeat' (kst_all1)
        decide
      · rintro ⟨x, y⟩ ⟨h0, hx⟩ ht
        simp only [beq_iff_eq] at h0 hx ht
        have ht' := ht
        rw [Int.fmod_eq_emod_of_nonneg x (by decide)] at ht'
        refine ⟨[(Str.ofString "kept", .int (x.fdiv 10)), (Str.ofString "e", .int (y + 1)), (Str.ofString "n", .int n)], ?_, ?_, ?_, ?_⟩
        · dsimp only
          refine Exs.swap2 (d1 := .int (x.fdiv 10)) (d2 := .int (y + 1)) ?_ (by assumption) rfl rfl ?_ (Exs.nilS ⟨rfl, rfl, rfl, trivial⟩)
          · repeat' (kst_all1)
            all_goals decide
          · intro env h1 h2 h3
            exact swapped2 h1 h2 h3 rfl (by decide +kernel) rfl rfl rfl
        · exact ⟨rfl, rfl, rfl, trivial⟩
        · refine ⟨?_, ?_⟩
          · dsimp only
            rw [Int.fdiv_eq_ediv_of_nonneg x (by decide)]; lia
          · dsimp only
            rw [← hx, stripF_step ht h0 (Nat.le_refl _)]
        · rw [Int.fdiv_eq_ediv_of_nonneg x (by decide)]
          dsimp only
          omega
      · rintro ⟨x, y⟩ ⟨h0, hx⟩ ht
        have ht' : x.fmod 10 ≠ 0 := by simpa using ht
        rw [stripF_end ht'] at hx
        have hfin : (if decide (n < 0) then -x else x) = (strip (sg n K) (-40 + (a : Int))).1 ∧ y = (strip (sg n K) (-40 + (a : Int))).2 := by
          rw [show (-40 : Int) + a = a - 40 by (first | lia | omega)]
          unfold sg
          by_cases hp : 0 < n
          · rw [if_pos hp, ← hx, decide_eq_false (by (first | lia | omega))]; exact ⟨rfl, rfl⟩
          · rw [if_neg hp, strip_neg, ← hx, decide_eq_true (by (first | lia | omega))]; exact ⟨rfl, rfl⟩
        dsimp only
        refine Exs.retd (Ev.tup (Evs.cons (Ev.iteI (Tr.cmp (Ev.loc (by assumption) rfl rfl) Ev.int cmp_lt) (fun _ => Ev.neg (Ev.loc (by assumption) rfl rfl)) (fun _ => Ev.loc (by assumption) rfl rfl)) (Evs.cons (Ev.loc (by assumption) rfl rfl) Evs.nil)) (by rw [sizeLine_eq]; simp)) ?_
        rw [hfin.1, hfin.2]
end
section
noncomputable
def nearI (n : Int) : Int := n + (if decide (n > 0) then (10 ^ 40 : Int).fdiv 2 else -((10 ^ 40 : Int).fdiv 2))
noncomputable
def wholeI (x : Int × Int) (b : Bool) : Int := lcut (if b then nearI (FX x) else FX x) (10 ^ 40)
theorem law_whole_ok (x : Int × Int) (b : Bool) (h : Md x) (h1 : -40 ≤ x.2) : CallOk 2 (.ref 494) [tupD x, .bool b] (some (.int (wholeI x b))) := by
  have con1 := law_fixed_ok x h h1
  have con2 := law_one_ok
  have u0 : (10 : Int) ^ 40 ≠ 0 := Int.ne_of_gt (pow10_pos 40)
  have ul : ((10 : Int) ^ 40).natAbs.log2 < 9000 := log2_pow10 (by decide)
  have con3 := fun n => law_cut_ok n (10 ^ 40) u0 ul
  refine CallOk.fn 79 ["x", "is_near"] g_law_whole rfl (by kbt_split) rfl rfl rfl rfl rfl rfl (fun c hn hs => ?_)
  refine Exs.assign (d := .int (FX x)) (Ev.call (e_law_fixed (by assumption) rfl) (Evs.cons (Ev.loc (by assumption) rfl rfl) Evs.nil) con1 (by (first | lia | omega))) (by assumption) rfl ?_
  unfold wholeI nearI
  generalize FX x = F at *
  generalize (10 : Int) ^ 40 = U at *
  refine Exs.if_ (p := b) (Tr.plain (Ev.loc (by assumption) rfl rfl)) (fun hif => ?_) (fun hif => ?_)
  · rw [hif]
    refine Exs.appCons (Exs.aug (d := .int (F + (if decide (F > 0) then U.fdiv 2 else -(U.fdiv 2)))) (by assumption) rfl rfl (d1 := .int (if decide (F > 0) then U.fdiv 2 else -(U.fdiv 2))) ?_ aug_add ?_)
    · repeat' (first | exact con2 | refine' Ev.iteI ?_ ?_ ?_ | kst_all1)
      all_goals decide
    · repeat' (first | exact con2 | exact con3 _ | kst_all1)
      rfl
  · rw [hif]
    repeat' (first | exact con2 | exact con3 _ | kst_all1)
    rfl
/-- the plain due of ABS, MOD, SIGN, DIM -/
noncomputable
def numI (name : Str) (x y : Int) : Option Int :=
  if name == "ABS" then some x.natAbs
  else if name == "MOD" then (if y == 0 then none else some (if decide (x < 0) then -((x.natAbs : Int).fmod y.natAbs) else (x.natAbs : Int).fmod y.natAbs))
  else if name == "SIGN" then some (if decide (y ≥ 0) then (x.natAbs : Int) else -(x.natAbs : Int))
  else some (max (x - y) 0)
noncomputable
def dueI (kind : Int) (d : Nat) (most : Int) : Option Int → D
  | none => .none
  | some f => if kind == 0 then orNone (lint f most) else tupD (told f d)
theorem law_number_due_ok (name : Str) (kind : Int) (d : Nat) (x y most : Int) (hd : 1 ≤ d) (hd2 : d ≤ 100) (hf : ∀ f, numI name x y = some f → cd f.natAbs ≤ 400) :
    CallOk 2 (.ref 511) [.str name, .int kind, .int d, .int x, .int y, .int most] (some (dueI kind d most (numI name x y))) := by
  have con1 := fun n => law_int_ok n most
  refine CallOk.fn 82 ["name", "kind", "digits", "x", "y", "most"] g_law_number_due rfl (by kbt_split) rfl rfl rfl rfl rfl (by unfold dueI; split <;> (try split) <;> (try (unfold lint; split)) <;> rfl) (fun c hn hs => ?_)
  have ff : ∀ {b : Bool}, b = false → ¬ (b = true) := fun h => by rw [h]; decide
  have con2 : ∀ f : Int, cd f.natAbs ≤ 400 → CallOk 1 (.ref 461) [.int f, .int d] (some (tupD (told f d))) := fun f h => law_told_ok f d hd hd2 h
  obtain ⟨r, hr⟩ : ∃ r, numI name x y = r := ⟨_, rfl⟩
  rw [hr] at hf ⊢
  refine Exs.if_ (p := name == "ABS") (Tr.cmp (Ev.loc (by assumption) rfl rfl) Ev.str cmp_eqS) (fun h1 => ?_) (fun h1 => ?_)
  case' refine_1 =>
    rw [numI, if_pos h1] at hr
    subst hr
    have con3 := con2 _ (hf _ rfl)
    generalize hF : (x.natAbs : Int) = f at con3 ⊢
    refine Exs.appCons (Exs.assign (d := .int f) (hF ▸ ?_) (by assumption) rfl (Exs.appNil (Exs.weaken (ρ' := [(Str.ofString "found", .int f), (Str.ofString "kind", .int kind), (Str.ofString "most", .int most), (Str.ofString "digits", .int d)]) ⟨rfl, rfl, rfl, rfl, trivial⟩ ?_)))
    · repeat' (kst_all1)
  case' refine_2 =>
    rw [numI, if_neg (ff h1)] at hr
    refine Exs.appCons (Exs.if_ (p := name == "MOD") (Tr.cmp (Ev.loc (by assumption) rfl rfl) Ev.str cmp_eqS) (fun h2 => ?_) (fun h2 => ?_))
  case' refine_2.refine_1 =>
    rw [if_pos h2] at hr
    refine Exs.appCons (Exs.if_ (p := y == 0) (Tr.cmp (Ev.loc (by assumption) rfl rfl) Ev.int cmp_eq) (fun h3 => ?_) (fun h3 => ?_))
  case refine_2.refine_1.refine_1 =>
    rw [if_pos h3] at hr
    subst hr
    repeat' (kst_all1)
    rfl
  case' refine_2.refine_1.refine_2 =>
    rw [if_neg (ff h3)] at hr
    subst hr
    have hy : (y.natAbs : Int) ≠ 0 := by
      have : y ≠ 0 := by simpa using h3
      (first | (clear hf h3 h2 h1 con2 ff hs hn con1 hd2 hd; lia) | lia | omega)
    have con3 := con2 _ (hf _ rfl)
    generalize hG : (x.natAbs : Int).fmod y.natAbs = g at con3 ⊢
    refine Exs.appNil (Exs.appCons (Exs.assign (d := .int g) ?_ (by assumption) rfl (Exs.appCons (Exs.assign (d := .int (if decide (x < 0) then -g else g)) ?_ (by assumption) rfl ?_))))
    · rw [← hG]
      repeat' (kst_all1)
      exact hy
    · repeat' (first | refine' Ev.iteI ?_ ?_ ?_ | kst_all1)
    generalize (if decide (x < 0) then -g else g) = f at con3 ⊢
    refine Exs.appNil (Exs.appNil (Exs.appNil (Exs.weaken (ρ' := [(Str.ofString "found", .int f), (Str.ofString "kind", .int kind), (Str.ofString "most", .int most), (Str.ofString "digits", .int d)]) ⟨rfl, rfl, rfl, rfl, trivial⟩ ?_)))
  case' refine_2.refine_2 =>
    rw [if_neg (ff h2)] at hr
    refine Exs.appCons (Exs.if_ (p := name == "SIGN") (Tr.cmp (Ev.loc (by assumption) rfl rfl) Ev.str cmp_eqS) (fun h3 => ?_) (fun h3 => ?_))
  case' refine_2.refine_2.refine_1 =>
    rw [if_pos h3] at hr
    subst hr
    have con3 := con2 _ (hf _ rfl)
    generalize hG : (if decide (y ≥ 0) then (x.natAbs : Int) else -(x.natAbs : Int)) = f at con3 ⊢
    refine Exs.appCons (Exs.assign (d := .int f) ?_ (by assumption) rfl (Exs.appNil (Exs.appNil (Exs.appNil (Exs.weaken (ρ' := [(Str.ofString "found", .int f), (Str.ofString "kind", .int kind), (Str.ofString "most", .int most), (Str.ofString "digits", .int d)]) ⟨rfl, rfl, rfl, rfl, trivial⟩ ?_)))))
    · rw [← hG]
      repeat' (first | refine' Ev.iteI ?_ ?_ ?_ | kst_all1)
  case' refine_2.refine_2.refine_2 =>
    rw [if_neg (ff h3)] at hr
    subst hr
    have con3 := con2 _ (hf _ rfl)
    generalize hG : max (x - y) 0 = f at con3 ⊢
    refine Exs.appCons (Exs.assign (d := .int f) ?_ (by assumption) rfl (Exs.appNil (Exs.appNil (Exs.appNil (Exs.weaken (ρ' := [(Str.ofString "found", .int f), (Str.ofString "kind", .int kind), (Str.ofString "most", .int most), (Str.ofString "digits", .int d)]) ⟨rfl, rfl, rfl, rfl, trivial⟩ ?_)))))
    · rw [← hG]
      repeat' (kst_all1)
  all_goals
    refine Exs.retd (Ev.ite (d1 := orNone (lint f most)) (d2 := tupD (told f d)) (Tr.cmp (Ev.loc (by assumption) rfl rfl) Ev.int cmp_eq) (fun _ => ?_) (fun _ => ?_)) rfl
    · exact Ev.call (e_law_int (by assumption) rfl) (Evs.cons (Ev.loc (by assumption) rfl rfl) (Evs.cons (Ev.loc (by assumption) rfl rfl) Evs.nil)) (con1 f) (by (first | lia | omega))
    · exact Ev.call (e_law_told (by assumption) rfl) (Evs.cons (Ev.loc (by assumption) rfl rfl) (Evs.cons (Ev.loc (by assumption) rfl rfl) Evs.nil)) con3 (by (first | lia | omega))
end
section
noncomputable
def v0I (n most : Int) : Int := if n.fmod 5 == 4 then [-most, most - 1, -1, 0, 1].getD ((n.fdiv 5).fmod 5).toNat 0 else n.fmod (2 * most) - most
noncomputable
def vmI (k n : Int) : Int := [(n.fdiv 8).fmod 25, (n.fdiv 8).fmod (if k == 1 then 10 ^ 4 else 10 ^ 9)].getD ((n.fdiv 4).fmod 2).toNat 0
noncomputable
def veI (n : Int) : Int := [-1, 0, 2, -3].getD ((n.fdiv 2).fmod 4).toNat 0
noncomputable
def vsI (k n : Int) : Int := if n.fmod 2 != 0 then vmI k n else -(vmI k n)
noncomputable
def v1I (k n : Int) : Int × Int := told (vsI k n * 10 ^ (40 + veI n).toNat) 9
theorem fmod_rng {n m : Int} (hm : 0 < m) : 0 ≤ n.fmod m ∧ n.fmod m < m := by
  rw [Int.fmod_eq_emod_of_nonneg _ (by (first | lia | omega))]
  exact ⟨Int.emod_nonneg _ (by (first | lia | omega)), Int.emod_lt_of_pos _ hm⟩
theorem getD_all {is : List Int} {P : Int → Prop} (h : ∀ i ∈ is, P i) (hz : P 0) (k : Nat) : P (is.getD k 0) := by
  rw [List.getD_eq_getElem?_getD]
  cases q : is[k]? with
  | none => exact hz
  | some i => exact h i (List.mem_of_getElem? q)
theorem vmI_rng (k n : Int) : 0 ≤ vmI k n ∧ vmI k n < (if k == 1 then 10 ^ 4 else 10 ^ 9) := by
  unfold vmI
  refine getD_all (P := fun i => 0 ≤ i ∧ i < (if k == 1 then 10 ^ 4 else 10 ^ 9)) (fun i hi => ?_) (by split <;> decide) _
  rcases List.mem_cons.mp hi with rfl | hi
  · have := fmod_rng (n := n.fdiv 8) (m := 25) (by decide)
    split <;> omega
  · rw [List.mem_singleton.mp hi]
    exact fmod_rng (by split <;> decide)
theorem veI_rng (n : Int) : -3 ≤ veI n ∧ veI n ≤ 2 := by
  unfold veI
  refine getD_all (P := fun i => -3 ≤ i ∧ i ≤ 2) (fun i hi => ?_) (by decide) _
  simp at hi
  lia
theorem vsI_rng (k n : Int) : (vsI k n).natAbs < 10 ^ 9 := by
  have := vmI_rng k n
  have h2 : (if k == 1 then (10 : Int) ^ 4 else 10 ^ 9) ≤ 10 ^ 9 := by split <;> decide
  unfold vsI
  split <;> omega
theorem law_value_int_ok (n most : Int) (hm : 0 < most) : CallOk 2 (.ref 487) [.int 0, .int n, .int most] (some (.int (v0I n most))) := by
  refine CallOk.cell 78 ["kind", "n", "most"] g_law_value rfl (by kbt_split) (by decide +kernel) cells_some rfl rfl rfl (fun d h => by cases h; rfl) (fun c hn hs hcm => ?_)
  unfold v0I
  refine Exs.if_ (Tr.cmp (Ev.loc (by assumption) rfl rfl) Ev.int cmp_eq) (fun _ => ?_) (fun hif => absurd hif (by decide))
  refine Exs.appCons (Exs.if_ (p := n.fmod 5 == 4) ?_ (fun hif => ?_) (fun hif => ?_))
  · repeat' (kst_all1)
    decide
  · rw [if_pos hif]
    refine Exs.retd (Ev.idxInts (is := [-most, most - 1, -1, 0, 1]) (k := (n.fdiv 5).fmod 5) ?_ ?_ (fmod_rng (by decide)).1 (fmod_rng (by decide)).2 (by simp)) rfl
    · repeat' (kst_all1)
    · repeat' (kst_all1)
      all_goals decide
  · rw [if_neg (by rw [hif]; decide)]
    repeat' (kst_all1)
    all_goals first | omega | exact mulOk2 | rfl
theorem law_value_real_ok (k n most : Int) (hk : k = 1 ∨ k = 2) : CallOk 2 (.ref 487) [.int k, .int n, .int most] (some (tupD (v1I k n))) := by
  have hr := vsI_rng k n
  have he := veI_rng n
  have con1 : CallOk 1 (.ref 461) [.int (vsI k n * 10 ^ (40 + veI n).toNat), .int ((9 : Nat) : Int)] (some (tupD (v1I k n))) := law_told_ok _ 9 (by decide) (by decide) (by
    refine cd_le_of (Nat.lt_of_lt_of_le ?_ (Nat.pow_le_pow_right (by decide) (show 51 ≤ 400 by decide)))
    rw [natAbs_mulpow]
    refine Nat.lt_of_lt_of_le (Nat.mul_lt_mul_of_pos_right hr (pow_pos10 _)) ?_
    rw [← Nat.pow_add]
    exact Nat.pow_le_pow_right (by decide) (by (first | lia | omega)))
  have con2 : IntMulOk (vsI k n) (10 ^ (40 + veI n).toNat) := mulOk_pow (Sm.of (k := 9) (by decide) hr) (by (first | lia | omega))
  have hve : veI n = [-1, 0, 2, -3].getD ((n.fdiv 2).fmod 4).toNat 0 := rfl
  generalize v1I k n = r at *
  have hvs : vsI k n = if n.fmod 2 != 0 then vmI k n else -(vmI k n) := rfl
  have hvm : vmI k n = [(n.fdiv 8).fmod 25, (n.fdiv 8).fmod (if k == 1 then 10 ^ 4 else 10 ^ 9)].getD ((n.fdiv 4).fmod 2).toNat 0 := rfl
  generalize vsI k n = vs at *
  generalize veI n = ve at *
  generalize vmI k n = vm at *
  have hp : (if k == 1 then (10 : Int) ^ 4 else 10 ^ 9) ≠ 0 := by split <;> decide
  refine CallOk.cell 78 ["kind", "n", "most"] g_law_value rfl (by kbt_split) (by decide +kernel) cells_some rfl rfl rfl (fun d h => by cases h; rfl) (fun c hn hs hcm => ?_)
  refine Exs.if_ (p := k == 0) (Tr.cmp (Ev.loc (by assumption) rfl rfl) Ev.int cmp_eq) (fun hif => by simp at hif; (first | (clear hcm hs hn hp hvs hvm hve he hr; lia) | lia | omega)) (fun _ => ?_)
  refine Exs.appNil (Exs.if_ (p := k == 3) (Tr.cmp (Ev.loc (by assumption) rfl rfl) Ev.int cmp_eq) (fun hif => by simp at hif; (first | (clear hcm hs hn hp hvs hvm hve he hr; lia) | lia | omega)) (fun _ => ?_))
  refine Exs.appNil (Exs.if_ (p := k == 5) (Tr.cmp (Ev.loc (by assumption) rfl rfl) Ev.int cmp_eq) (fun hif => by simp at hif; (first | (clear hcm hs hn hp hvs hvm hve he hr; lia) | lia | omega)) (fun _ => ?_))
  refine Exs.appNil (Exs.assign (d := .int vm) ?_ (by assumption) rfl ?_)
  · rw [hvm]
    refine Ev.idxInts (is := [(n.fdiv 8).fmod 25, (n.fdiv 8).fmod (if k == 1 then 10 ^ 4 else 10 ^ 9)]) ?_ ?_ (fmod_rng (by decide)).1 (fmod_rng (by decide)).2 (by simp)
    · repeat' (first | refine' Ev.iteI ?_ ?_ ?_ | kst_all1)
      all_goals first | exact hp | decide
    · repeat' (kst_all1)
      all_goals decide
  refine Exs.retd (Ev.call (e_law_told (by assumption) rfl) (Evs.cons (d := .int (vs * 10 ^ (40 + ve).toNat)) (Ev.bin (a := .int vs) (b := .int (10 ^ (40 + ve).toNat)) ?_ (Ev.bin Ev.int (Ev.bin (b := .int ve) Ev.int ?_ bin_add) (bin_pow (by (first | lia | omega)) (by (first | lia | omega)) (by decide))) (bin_mul con2)) (Evs.cons Ev.int Evs.nil)) con1 (by (first | lia | omega))) rfl
  · rw [hvs]
    refine Ev.iteI (Tr.int ?_) (fun _ => Ev.loc (by assumption) rfl rfl) (fun _ => Ev.neg (Ev.loc (by assumption) rfl rfl))
    repeat' (kst_all1)
    decide
  · rw [hve]
    refine Ev.idxInts (is := [-1, 0, 2, -3]) ?_ ?_ (fmod_rng (by decide)).1 (fmod_rng (by decide)).2 (by simp)
    · repeat' (kst_all1)
    · repeat' (kst_all1)
      all_goals decide
theorem law_value_cpx_ok (n most : Int) : CallOk 3 (.ref 487) [.int 3, .int n, .int most] (some (.tup [tupD (v1I 1 (n.fdiv 3)), tupD (v1I 1 (n.fdiv 7 + 5))])) := by
  have con1 := fun m => law_value_real_ok 1 m most (.inl rfl)
  refine CallOk.cell 78 ["kind", "n", "most"] g_law_value rfl (by kbt_split) (by decide +kernel) cells_some rfl rfl rfl (fun d h => by cases h; rfl) (fun c hn hs hcm => ?_)
  refine Exs.if_ (p := (3 : Int) == 0) (Tr.cmp (Ev.loc (by assumption) rfl rfl) Ev.int cmp_eq) (fun hif => absurd hif (by decide)) (fun _ => ?_)
  refine Exs.appNil (Exs.if_ (p := (3 : Int) == 3) (Tr.cmp (Ev.loc (by assumption) rfl rfl) Ev.int cmp_eq) (fun _ => ?_) (fun hif => absurd hif (by decide)))
  repeat' (first | exact con1 _ | kst_all1)
  all_goals first | decide | rfl
noncomputable
def sgnI (n : Int) (k : Nat) : Nat := [32, 65, 66, 126].getD ((n.fdiv (4 ^ k)).fmod 4).toNat 0
/-- a drawn text -/
noncomputable
def textL (n : Int) : List Nat := (List.range ((n.fdiv 1024).fmod 5).toNat).map (sgnI n)
theorem textL_len (n : Int) : (textL n).length ≤ 4 := by
  have := fmod_rng (n := n.fdiv 1024) (m := 5) (by decide)
  unfold textL
  rw [List.length_map, List.length_range]
  omega
theorem law_value_text_ok (n most : Int) : CallOk 2 (.ref 487) [.int 5, .int n, .int most] (some (.str ⟨(textL n).toArray⟩)) := by
  have hr := fmod_rng (n := n.fdiv 1024) (m := 5) (by decide)
  refine CallOk.cell 78 ["kind", "n", "most"] g_law_value rfl (by kbt_split) (by decide +kernel) cells_some rfl rfl rfl (fun d h => by cases h; rfl) (fun c hn hs hcm => ?_)
  refine Exs.if_ (p := (5 : Int) == 0) (Tr.cmp (Ev.loc (by assumption) rfl rfl) Ev.int cmp_eq) (fun hif => absurd hif (by decide)) (fun _ => ?_)
  refine Exs.appNil (Exs.if_ (p := (5 : Int) == 3) (Tr.cmp (Ev.loc (by assumption) rfl rfl) Ev.int cmp_eq) (fun hif => absurd hif (by decide)) (fun _ => ?_))
  refine Exs.appNil (Exs.if_ (p := (5 : Int) == 5) (Tr.cmp (Ev.loc (by assumption) rfl rfl) Ev.int cmp_eq) (fun _ => ?_) (fun hif => absurd hif (by decide)))
  let f : D → D := fun d => match d with
    | .int k => .str ⟨#[sgnI n k.toNat]⟩
    | _ => .none
  have hsrc : ∀ d ∈ rangeD ((n.fdiv 1024).fmod 5).toNat, ∃ k : Nat, d = .int k ∧ k < 5 := by
    intro d hd
    obtain ⟨k, hk, rfl⟩ := List.mem_map.mp hd
    exact ⟨k, rfl, by have := List.mem_range.mp hk; omega⟩
  have hfx : ((rangeD ((n.fdiv 1024).fmod 5).toNat).filter fun _ => true).map f = ((textL n).map fun k => (⟨#[k]⟩ : Str)).map D.str := by
    rw [List.filter_eq_self.mpr (fun _ _ => rfl)]
    unfold rangeD textL
    rw [List.map_map, List.map_map, List.map_map]
    refine List.map_congr_left fun k _ => ?_
    rfl
  refine Exs.retd (Ev.join (x := Str.ofString "") (xs := (textL n).map fun k => (⟨#[k]⟩ : Str)) Ev.str ?_ (joinOk_signs _ (by have := textL_len n; lia))) (by rw [glued_signs])
  rw [← hfx]
  refine Ev.comp (CompOk.mk1 (n := "n") (dn := .int n) (tst := fun _ => true) (f := f) (by assumption) (IterEv.range (n := (n.fdiv 1024).fmod 5) ?_ ?_ (by omega) (by omega)) ?_ rfl rfl rfl rfl rfl rfl (fun env => by unfold closureFor; simp [List.forIn_cons, List.forIn_nil]) rfl rfl rfl (by decide) (fun c' h1 h2 d hd => rfl) (fun c' h1 h2 d hd _ => ?_) (fun d hd _ => ?_))
  · repeat' (kst_all1)
  · repeat' (kst_all1)
    all_goals decide
  · unfold rangeD; rw [List.length_map, List.length_range]; omega
  · obtain ⟨k, rfl, hk⟩ := hsrc d hd
    have hk4 := fmod_rng (n := n.fdiv (4 ^ k)) (m := 4) (by decide)
    refine EvX.of (d := .str ⟨#[sgnI n k]⟩) ?_ rfl
    refine Ev.idxS (x := Str.ofString " AB~") (k := ((n.fdiv (4 ^ k)).fmod 4).toNat) Ev.str ?_ ?_ (by decide)
    · rw [Int.toNat_of_nonneg hk4.1]
      refine Ev.bin (a := .int (n.fdiv (4 ^ k))) (b := .int 4) (Ev.bin (a := .int n) (b := .int (4 ^ k)) (Ev.cel h2 rfl rfl) (Ev.bin (a := .int 4) (b := .int k) Ev.int (Ev.loc h2 rfl rfl) (bin_pow (by (first | lia | omega)) (by (first | lia | omega)) (by decide))) (bin_div (Int.ne_of_gt (Int.pow_pos (by decide))) ?_)) Ev.int (bin_mod (by decide))
      have : k = 0 ∨ k = 1 ∨ k = 2 ∨ k = 3 ∨ k = 4 := by (first | lia | omega)
      rcases this with rfl | rfl | rfl | rfl | rfl <;> decide +kernel
    · unfold sgnI
      generalize hj : ((n.fdiv (4 ^ k)).fmod 4).toNat = j
      have : j = 0 ∨ j = 1 ∨ j = 2 ∨ j = 3 := by (first | lia | omega)
      rcases this with rfl | rfl | rfl | rfl <;> rfl
  · obtain ⟨k, rfl, hk⟩ := hsrc d hd
    rfl
end
section
theorem one_cell {ns : List (Str × NameKind)} {x : Str} (h : (ns.filter fun p => p.2 == .cell).map (·.1) = [x]) (y : Str) (hy : ns.lookup y = some .cell) : y = x := by
  have mem : ∀ (q : List (Str × NameKind)), q.lookup y = some .cell → (y, NameKind.cell) ∈ q := by
    intro q
    induction q with
    | nil => intro h; simp at h
    | cons p q ih =>
      obtain ⟨n, kd⟩ := p
      intro h
      rw [List.lookup_cons] at h
      split at h
      · rename_i hb
        cases h
        rw [eq_of_beq hb]
        exact .head _
      · exact .tail _ (ih h)
  have : y ∈ (ns.filter fun p => p.2 == .cell).map (·.1) := List.mem_map.mpr ⟨(y, .cell), List.mem_filter.mpr ⟨mem _ hy, rfl⟩, rfl⟩
  rw [h] at this
  exact List.mem_singleton.mp this
/-- a text as codes, filled with blanks -/
noncomputable
def padL (x y : Str) (v : Str) : List Nat := v.cps.toList ++ List.replicate (max (x.length : Int) y.length - v.length).toNat 32
noncomputable
def natsD (l : List Nat) : D := .lst (l.map fun (k : Nat) => .int (k : Int))
theorem natsD_noLst (l : List Nat) : D.noLstAll (l.map fun (k : Nat) => D.int (k : Int)) = true := by
  induction l with
  | nil => rfl
  | cons a l ih => exact ih
theorem natsD_deep (l : List Nat) : (natsD l).deep = true := by
  show D.deepAll _ = true
  induction l with
  | nil => rfl
  | cons a l ih => exact ih
theorem law_padded_ok (x y : Str) (hx : x.length ≤ 100) (hy : y.length ≤ 100) : CallOk 2 (.ref 499) [.lst [.str x, .str y]] (some (.lst [natsD (padL x y x), natsD (padL x y y)])) := by
  refine CallOk.cell 80 ["values"] g_law_padded rfl (by kbt_split) (by decide +kernel) cells_some rfl rfl rfl (fun d h => by cases h; simp [D.deep, D.deepAll, natsD_deep]) (fun c hn hs hcm => ?_)
  refine Exs.assignCell (d := .int (max (x.length : Int) y.length)) ?_ (by assumption) rfl (one_cell (by decide +kernel)) hcm ?_
  · repeat' (first | refine' len_str_ok ?_ | kst_all1)
    all_goals lia
  let f : D → D := fun d => match d with
    | .str v => natsD (padL x y v)
    | _ => .none
  let fi : D → D := fun d => match d with
    | .str v => .int (v.cps.getD 0 0 : Nat)
    | _ => .none
  have hsrc : ∀ d ∈ [D.str x, D.str y], ∃ v : Str, d = .str v ∧ v.length ≤ 100 := by
    intro d hd
    rcases List.mem_cons.mp hd with rfl | hd
    · exact ⟨x, rfl, hx⟩
    · rw [List.mem_singleton.mp hd]; exact ⟨y, rfl, hy⟩
  refine Exs.retd (Ev.comp (CompOk.mk1 (n := "wide") (dn := .int (max (x.length : Int) y.length)) (src := [.str x, .str y]) (tst := fun _ => true) (f := f) (by assumption) (IterEv.lst (Ev.loc (by assumption) rfl rfl)) (by simp) rfl rfl rfl rfl rfl rfl (fun env => by unfold closureFor; simp [List.forIn_cons, List.forIn_nil]) rfl rfl rfl (by decide) (fun c' h1 h2 d hd => rfl) (fun c' h1 h2 d hd _ => ?_) (fun d hd _ => ?_))) rfl
  · obtain ⟨v, rfl, hv⟩ := hsrc d hd
    have hfi : ((signD v).filter fun _ => true).map fi = v.cps.toList.map fun (k : Nat) => D.int (k : Int) := by
      rw [List.filter_eq_self.mpr (fun _ _ => rfl)]
      unfold signD
      rw [List.map_map]
      exact List.map_congr_left fun k _ => rfl
    have hpad : f (.str v) = .lst (((signD v).filter fun _ => true).map fi ++ List.replicate (max (x.length : Int) y.length - v.length).toNat (.int 32)) := by
      rw [hfi]
      show D.lst ((v.cps.toList ++ List.replicate _ 32).map _) = _
      rw [List.map_append, List.map_replicate]
      rfl
    rw [hpad]
    have hvl : v.cps.toList.length = v.length := by simp [Str.length]
    refine EvX.addL (Ev.comp (CompOk.mk0 (tst := fun _ => true) (f := fi) h2 (IterEv.str (Ev.loc h2 rfl rfl)) ?_ rfl rfl rfl rfl (fun env => by unfold closureFor; simp [List.forIn_cons, List.forIn_nil]) (fun c'' g1 g2 d hd => rfl) (fun c'' g1 g2 d hd _ => ?_) (fun d hd _ => ?_))) ?_ ?_ ?_
    · unfold signD; rw [List.length_map]; lia
    · obtain ⟨k, hk, rfl⟩ := List.mem_map.mp hd
      refine EvX.of (d := .int (k : Nat)) ?_ rfl
      exact Ev.call (e_ord g2 rfl) (Evs.cons (Ev.loc g2 rfl rfl) Evs.nil) (ord_ok (x := ⟨#[k]⟩) rfl) (Nat.zero_le _)
    · obtain ⟨k, hk, rfl⟩ := List.mem_map.mp hd
      rfl
    · refine Ev.bin (a := .lst [.int 32]) (b := .int (max (x.length : Int) y.length - v.length)) (Ev.lst (Evs.cons Ev.int Evs.nil) (by rw [sizeLine_eq]; simp)) (Ev.bin (a := .int (max (x.length : Int) y.length)) (b := .int v.length) (Ev.cel h2 rfl rfl) ?_ bin_sub) (bin_mulL1 (by (first | lia | omega)) (by (first | (clear hvl hpad hfi h2 h1 hsrc hcm hs hn hy hx; lia) | lia | omega)))
      exact Ev.call (e_len h2 rfl) (Evs.cons (Ev.loc h2 rfl rfl) Evs.nil) (len_str_ok (by (first | lia | omega))) (Nat.zero_le _)
    · rw [hfi, List.length_map, List.length_replicate, sizeLine_eq]; lia
    · rw [hfi]
      have := natsD_noLst (v.cps.toList ++ List.replicate (max (x.length : Int) y.length - v.length).toNat 32)
      rw [List.map_append, List.map_replicate] at this
      exact this
  · obtain ⟨v, rfl, hv⟩ := hsrc d hd
    exact natsD_deep _
end
section
theorem Str.len_list (x : Str) : x.cps.toList.length = x.length := by simp [Str.length]
theorem padL_len (x y v : Str) (hv : v = x ∨ v = y) : (padL x y v).length = max x.length y.length := by
  unfold padL
  rw [List.length_append, List.length_replicate, Str.len_list]
  rcases hv with rfl | rfl <;> omega
/-- the place of a text in another, by the law's search -/
noncomputable
def spotsL (x y : Str) : List Nat := (List.range (x.length + 1)).filter fun at_ => (Txt.slice x (some (at_ : Int)) (some ((at_ : Int) + y.length))) == y
theorem law_text_len_ok (x : Str) (vs : List D) (hx : x.length < 100) : CallOk 3 (.ref 504) [.str "LEN", .lst (.str x :: vs)] (some (.int x.length)) := by
  refine CallOk.cell 81 ["name", "values"] g_law_text_due rfl (by kbt_split) (by decide +kernel) cells_some rfl rfl rfl (fun d h => by cases h; rfl) (fun c hn hs hcm => ?_)
  refine Exs.if_ (p := Str.ofString "LEN" == Str.ofString "LEN") (Tr.cmp (Ev.loc (by assumption) rfl rfl) Ev.str cmp_eqS) (fun _ => ?_) (fun hif => absurd hif (by decide +kernel))
  repeat' (first | refine' len_str_ok ?_ | kst_all1)
  all_goals first | lia | rfl
theorem law_text_ichar_ok (x : Str) (vs : List D) (hx : x.length < 100) : CallOk 3 (.ref 504) [.str "ICHAR", .lst (.str x :: vs)] (some (if (x.length : Int) == 1 then .int (x.cps.getD 0 0 : Nat) else .none)) := by
  refine CallOk.cell 81 ["name", "values"] g_law_text_due rfl (by kbt_split) (by decide +kernel) cells_some rfl rfl rfl (fun d h => by cases h; split <;> rfl) (fun c hn hs hcm => ?_)
  refine Exs.if_ (p := Str.ofString "ICHAR" == Str.ofString "LEN") (Tr.cmp (Ev.loc (by assumption) rfl rfl) Ev.str cmp_eqS) (fun hif => absurd hif (by decide +kernel)) (fun _ => ?_)
  refine Exs.appNil (Exs.if_ (p := Str.ofString "ICHAR" == Str.ofString "ICHAR") (Tr.cmp (Ev.loc (by assumption) rfl rfl) Ev.str cmp_eqS) (fun _ => ?_) (fun hif => absurd hif (by decide +kernel)))
  refine Exs.appCons (Exs.retd (Ev.ite (p := (x.length : Int) == 1) (d1 := .int (x.cps.getD 0 0 : Nat)) (d2 := .none) ?_ (fun h => ?_) (fun _ => ?_)) rfl)
  · repeat' (first | refine' len_str_ok ?_ | kst_all1)
    lia
  · have h1 : x.length = 1 := by simp at h; lia
    repeat' (first | exact ord_ok h1 | kst_all1)
  · repeat' (kst_all1)
end
section
/-- INDEX by the law's search -/
noncomputable
def spotI (x y : Str) : Int := match spotsL x y with
  | [] => -1
  | a :: _ => (a : Int)
theorem law_text_index_ok (x y : Str) (hx : x.length < 100) (hy : y.length < 100) : CallOk 3 (.ref 504) [.str "INDEX", .lst [.str x, .str y]] (some (.int (spotI x y + 1))) := by
  refine CallOk.cell 81 ["name", "values"] g_law_text_due rfl (by kbt_split) (by decide +kernel) cells_some rfl rfl rfl (fun d h => by cases h; rfl) (fun c hn hs hcm => ?_)
  refine Exs.if_ (p := Str.ofString "INDEX" == Str.ofString "LEN") (Tr.cmp (Ev.loc (by assumption) rfl rfl) Ev.str cmp_eqS) (fun hif => absurd hif (by decide +kernel)) (fun _ => ?_)
  refine Exs.appNil (Exs.if_ (p := Str.ofString "INDEX" == Str.ofString "ICHAR") (Tr.cmp (Ev.loc (by assumption) rfl rfl) Ev.str cmp_eqS) (fun hif => absurd hif (by decide +kernel)) (fun _ => ?_))
  refine Exs.appNil (Exs.if_ (p := Str.ofString "INDEX" == Str.ofString "INDEX") (Tr.cmp (Ev.loc (by assumption) rfl rfl) Ev.str cmp_eqS) (fun _ => ?_) (fun hif => absurd hif (by decide +kernel)))
  let tst : D → Bool := fun d => match d with
    | .int i => Txt.slice x (some i) (some (i + y.length)) == y
    | _ => false
  have hsp : ((rangeD ((x.length : Int) + 1).toNat).filter tst).map id = (spotsL x y).map fun (k : Nat) => D.int (k : Int) := by
    rw [List.map_id]
    have : ((x.length : Int) + 1).toNat = x.length + 1 := by (first | lia | omega)
    rw [this, rangeD, List.filter_map]
    rfl
  have hsl : (spotsL x y).length ≤ 101 := by
    refine Nat.le_trans (List.length_filter_le ..) ?_
    rw [List.length_range]; lia
  refine Exs.appCons (Exs.assignComp (CompOk.mk1 (n := "values") (dn := .lst [.str x, .str y]) (src := rangeD ((x.length : Int) + 1).toNat) (tst := tst) (f := id) (by assumption) (IterEv.range (e_range (by assumption) rfl) ?_ (by (first | lia | omega)) (by (first | lia | omega))) ?_ rfl rfl rfl rfl rfl rfl (fun env => by unfold closureFor; simp [List.forIn_cons, List.forIn_nil]) rfl rfl rfl (by decide +kernel) (fun c' h1 h2 d hd => ?_) (fun c' h1 h2 d hd _ => ?_) (fun d hd _ => ?_)) (by assumption) rfl ?_ ?_)
  · repeat' (first | refine' len_str_ok ?_ | kst_all1)
    all_goals lia
  · simp [rangeD]; lia
  · obtain ⟨k, hk, rfl⟩ := List.mem_map.mp hd
    refine Tr.cmp (a := .str (Txt.slice x (some (k : Int)) (some ((k : Int) + y.length)))) (b := .str y) (Ev.slOfT (Ev.idx0 (Ev.cel h2 rfl rfl) rfl) (Ev.loc h2 rfl rfl) (Ev.bin (Ev.loc h2 rfl rfl) (Ev.call (e_len h2 rfl) (Evs.cons (Ev.idx1 (Ev.cel h2 rfl rfl) rfl) Evs.nil) (len_str_ok (by (first | lia | omega))) (Nat.zero_le _)) bin_add) (by rw [sizeLine_eq]; lia)) (Ev.idx1 (Ev.cel h2 rfl rfl) rfl) cmp_eqS
  · obtain ⟨k, hk, rfl⟩ := List.mem_map.mp hd
    exact EvX.of (d := .int (k : Int)) (Ev.loc h2 rfl rfl) rfl
  · obtain ⟨k, hk, rfl⟩ := List.mem_map.mp hd
    rfl
  · intro env h1 h2
    unfold swapsWith
    simp [h1, h2]
    exact congrArg pure (by decide +kernel)
  · rw [hsp]
    have hq : ((spotsL x y).map (fun (k : Nat) => D.int (k : Int)) ++ [D.int (-1)])[0]? = some (.int (spotI x y)) := by
      unfold spotI
      cases spotsL x y <;> rfl
    refine Exs.retd (Ev.bin (a := .int (spotI x y)) (b := .int 1) (Ev.idxL (ds := (spotsL x y).map (fun (k : Nat) => D.int (k : Int)) ++ [D.int (-1)]) (Ev.bin (Ev.loc (by assumption) rfl rfl) (Ev.lst (Evs.cons (Ev.neg Ev.int) Evs.nil) (by rw [sizeLine_eq]; simp)) (bin_addL ?_)) Ev.int (by decide) (by decide) hq) Ev.int bin_add) rfl
    simp [sizeLine_eq]; lia
end
section
/-- LGE and its like by the law -/
noncomputable
def lexL (x y : Str) : List (Str × Bool) := [(Str.ofString "LGE", !decide (padL x y x < padL x y y)), (Str.ofString "LGT", decide (padL x y y < padL x y x)), (Str.ofString "LLE", !decide (padL x y y < padL x y x)), (Str.ofString "LLT", decide (padL x y x < padL x y y))]
theorem law_text_cmp_ok (x y : Str) (nm : Str) (b : Bool) (hx : x.length ≤ 100) (hy : y.length ≤ 100)
    (hb : (lexL x y).lookup nm = some b) :
    CallOk 3 (.ref 504) [.str nm, .lst [.str x, .str y]] (some (.bool b)) := by
  have hnm : nm = "LGE" ∨ nm = "LGT" ∨ nm = "LLE" ∨ nm = "LLT" := by
    by_cases h1 : nm = Str.ofString "LGE"; exact .inl h1
    by_cases h2 : nm = Str.ofString "LGT"; exact .inr (.inl h2)
    by_cases h3 : nm = Str.ofString "LLE"; exact .inr (.inr (.inl h3))
    by_cases h4 : nm = Str.ofString "LLT"; exact .inr (.inr (.inr h4))
    simp [lexL, List.lookup_cons, beq_eq_false_iff_ne.mpr h1, beq_eq_false_iff_ne.mpr h2, beq_eq_false_iff_ne.mpr h3, beq_eq_false_iff_ne.mpr h4] at hb
  have hL : (nm == Str.ofString "LEN") = false := by rcases hnm with rfl | rfl | rfl | rfl <;> decide +kernel
  have hI : (nm == Str.ofString "ICHAR") = false := by rcases hnm with rfl | rfl | rfl | rfl <;> decide +kernel
  have hX : (nm == Str.ofString "INDEX") = false := by rcases hnm with rfl | rfl | rfl | rfl <;> decide +kernel
  have ff : ∀ {b : Bool}, b = false → ¬ (b = true) := fun h => by rw [h]; decide
  refine CallOk.cell 81 ["name", "values"] g_law_text_due rfl (by kbt_split) (by decide +kernel) cells_some rfl rfl rfl (fun d h => by cases h; rfl) (fun c hn hs hcm => ?_)
  refine Exs.if_ (p := nm == Str.ofString "LEN") (Tr.cmp (Ev.loc (by assumption) rfl rfl) Ev.str cmp_eqS) (fun hif => absurd hif (ff hL)) (fun _ => ?_)
  refine Exs.appNil (Exs.if_ (p := nm == Str.ofString "ICHAR") (Tr.cmp (Ev.loc (by assumption) rfl rfl) Ev.str cmp_eqS) (fun hif => absurd hif (ff hI)) (fun _ => ?_))
  refine Exs.appNil (Exs.if_ (p := nm == Str.ofString "INDEX") (Tr.cmp (Ev.loc (by assumption) rfl rfl) Ev.str cmp_eqS) (fun hif => absurd hif (ff hX)) (fun _ => ?_))
  have l1 : (padL x y x).length = (padL x y y).length := by rw [padL_len x y x (.inl rfl), padL_len x y y (.inr rfl)]
  refine Exs.appNil (Exs.tup2L (d1 := natsD (padL x y x)) (d2 := natsD (padL x y y)) (Ev.call (e_law_padded (by assumption) rfl) (Evs.cons (Ev.cel (by assumption) rfl rfl) Evs.nil) (law_padded_ok x y hx hy) (by (first | lia | omega))) (by assumption) rfl rfl ?_)
  have hnd : (((lexL x y).map fun p => (p.1, D.bool p.2)).map (·.1)).Nodup := by
    show [Str.ofString "LGE", Str.ofString "LGT", Str.ofString "LLE", Str.ofString "LLT"].Nodup
    decide +kernel
  refine Exs.retd (Ev.withOk fun O => Ev.dictAt (kds := (lexL x y).map fun p => (p.1, D.bool p.2)) (Dp.cons Ev.str (Ev.not (Ev.cmp (Ev.loc (by assumption) rfl rfl) (Ev.loc (by assumption) rfl rfl) (cmp_ltL ?_ ?_))) (Dp.cons Ev.str (Ev.cmp (Ev.loc (by assumption) rfl rfl) (Ev.loc (by assumption) rfl rfl) (cmp_ltL ?_ ?_)) (Dp.cons Ev.str (Ev.not (Ev.cmp (Ev.loc (by assumption) rfl rfl) (Ev.loc (by assumption) rfl rfl) (cmp_ltL ?_ ?_))) (Dp.cons Ev.str (Ev.cmp (Ev.loc (by assumption) rfl rfl) (Ev.loc (by assumption) rfl rfl) (cmp_ltL ?_ ?_)) Dp.nil)))) (Ev.loc (by assumption) rfl rfl) ?_ (by simp) (by decide) hnd (by intros; rfl)) rfl
  rotate_right
  · have lk : ∀ l : List (Str × Bool), l.lookup nm = some b → (l.map fun p => (p.1, D.bool p.2)).lookup nm = some (.bool b) := by
      intro l
      induction l with
      | nil => intro h; simp at h
      | cons p l ih =>
        obtain ⟨a, q⟩ := p
        intro h
        rw [List.lookup_cons] at h
        rw [List.map_cons, List.lookup_cons]
        cases e : nm == a with
        | true => rw [e] at h; cases h; rfl
        | false => rw [e] at h; exact ih h
    exact lk _ hb
  all_goals first | exact l1 | exact l1.symm | (have := O.units; lia)
end
section
noncomputable
def numT : List (Str × Value) := [("INT", .ref 216), ("REAL", .ref 223), ("DBLE", .ref 230), ("CMPLX", .ref 237), ("CCMPLX", .ref 244), ("AINT", .ref 251), ("ANINT", .ref 258), ("NINT", .ref 265), ("ABS", .ref 272), ("MOD", .ref 279), ("SIGN", .ref 286), ("DIM", .ref 300), ("DPROD", .ref 307), ("MAX", .ref 321), ("MIN", .ref 328), ("AMAX0", .ref 335), ("AMIN0", .ref 342), ("MAX1", .ref 349), ("MIN1", .ref 356), ("AIMAG", .ref 363), ("CONJG", .ref 370)]
noncomputable
def txtT : List (Str × Value) := [("ICHAR", .ref 384), ("CHAR", .ref 391), ("LEN", .ref 398), ("INDEX", .ref 405), ("LGE", .ref 412), ("LGT", .ref 419), ("LLE", .ref 426), ("LLT", .ref 433)]
theorem numT_nodup : ((numT ++ txtT).map (·.1)).Nodup := by decide +kernel
theorem map_long {c : Cx} {keys : List (Option Expr)} {values : List Expr} {pos : Pos} {kds : List (Str × D)} {T : List (Str × Value)} {s : Shared} {Q E : Value → Shared → Prop} (h : DpZ c [] keys values kds) (hkd : kds = T.map fun p => (p.1, D.val p.2)) (l1 : 17 < T.length) (l2 : T.length ≤ 32) (hn : (T.map (·.1)).Nodup) (O : c.Ok) (F : Fm c [] s.heap)
    (hQ : ∀ a s', Ext s s' → s.heap.get? a = none → 97 < a → s'.heap.DictOf (strKind P0 c.w) a T → Q (.ref a) s') : wpAny c.M c.A (eval (.Dict keys values pos) c.env) Q E s := by
  obtain ⟨h1, h2, h3, h4⟩ := h.dpl
  have hl : kds.length = T.length := by rw [hkd, List.length_map]
  have hm : kds.map (·.1) = T.map (·.1) := by rw [hkd, List.map_map]; rfl
  refine DpL.madeL h1 (by (first | lia | omega)) (by (first | lia | omega)) (by rw [hm]; exact hn) h2 h3 O F fun s' kvs x hD hk hr => ?_
  rw [hkd] at hk hr
  rw [vals_eq hk hr] at hD
  exact hQ _ _ x (fresh_size _) (Heap.lt_size ((O.sta.inK.keeps F.keep) 97 (K97 c.w.params) rfl)) hD
theorem map_short {c : Cx} {keys : List (Option Expr)} {values : List Expr} {pos : Pos} {kds : List (Str × D)} {T : List (Str × Value)} {s : Shared} {Q E : Value → Shared → Prop} (h : DpZ c [] keys values kds) (hkd : kds = T.map fun p => (p.1, D.val p.2)) (l1 : 0 < T.length) (l2 : T.length ≤ 15) (hn : (T.map (·.1)).Nodup) (O : c.Ok) (F : Fm c [] s.heap)
    (hQ : ∀ a s', Ext s s' → s.heap.get? a = none → 97 < a → s'.heap.DictOf (strKind P0 c.w) a T → Q (.ref a) s') : wpAny c.M c.A (eval (.Dict keys values pos) c.env) Q E s := by
  obtain ⟨h1, h2, h3, h4⟩ := h.dpl
  have hl : kds.length = T.length := by rw [hkd, List.length_map]
  have hl2 := h1.length
  have hm : kds.map (·.1) = T.map (·.1) := by rw [hkd, List.map_map]; rfl
  refine Dp.made h1.dp (fun q => by rw [q, List.length_nil] at hl2; lia) (by (first | lia | omega)) (by rw [hm]; exact hn) (fun env => zip_shape h2 h3) O F fun s' kvs x hD hk hr => ?_
  rw [hkd] at hk hr
  rw [vals_eq hk hr] at hD
  exact hQ _ _ x (fresh_size _) (Heap.lt_size ((O.sta.inK.keeps F.keep) 97 (K97 c.w.params) rfl)) hD
theorem num_ops_ok : CallMap 1 (.ref 377) numT := by
  refine CallMap.fn 61 g_number_operations rfl (by intro pm cd doc; rfl) rfl rfl rfl rfl ?_
  intro c hn hs O s Q E F hQ
  refine map_long (c := c) (kds := ?kds) (T := numT) ?h ?hk ?l1 ?l2 ?l3 ?l4 ?l5 ?l6
  case l4 => exact O
  case l5 => exact F
  case l6 => exact hQ
  case l1 => decide
  case l2 => decide
  case l3 => decide +kernel
  case h => repeat' (first | exact DpZ.nil | refine' DpZ.cons ?_ ?_ ?_ | kst_all1)
  case hk => rfl
theorem txt_ops_ok : CallMap 1 (.ref 440) txtT := by
  refine CallMap.fn 70 g_text_operations rfl (by intro pm cd doc; rfl) rfl rfl rfl rfl ?_
  intro c hn hs O s Q E F hQ
  refine map_short (c := c) (kds := ?kds) (T := txtT) ?h ?hk ?l1 ?l2 ?l3 ?l4 ?l5 ?l6
  case l4 => exact O
  case l5 => exact F
  case l6 => exact hQ
  case l1 => decide
  case l2 => decide
  case l3 => decide +kernel
  case h => repeat' (first | exact DpZ.nil | refine' DpZ.cons ?_ ?_ ?_ | kst_all1)
  case hk => rfl
end
section
noncomputable
def hasX (nm : Str) : Bool := !(Builtin.Str.occurrences nm (Str.ofString "X") 0 nm.length 1).isEmpty
theorem outE_keys {vs : List D} {ks : List Int} (hl : vs.length = ks.length) : outE (fun i _ => .tup [.int (ks.getD i 0), .int (i : Int)]) vs = keyD ks := by
  apply List.ext_getElem?
  intro i
  by_cases h : i < ks.length
  · rw [keyD_get h]
    have : i < vs.length := by (first | lia | omega)
    simp [outE, this]
  · have h1 : (keyD ks).length ≤ i := by rw [keyD_len]; lia
    rw [List.getElem?_eq_none h1]
    have : vs.length ≤ i := by (first | lia | omega)
    simp [outE, this]
theorem sortD_get {ks : List Int} (h2 : 2 ≤ ks.length) (h4 : ks.length ≤ 4) {k : Nat} (hk : k < ks.length) (hm : (sortI ks).getD k 0 < ks.length) : (sortD ks)[k]? = some (.tup [.int (ks.getD ((sortI ks).getD k 0) 0), .int ((sortI ks).getD k 0 : Nat)]) := by
  have hs := (sortI_max h2 h4).1
  have hk' : k < (sortI ks).size := by (first | lia | omega)
  have e : (sortI ks).getD k 0 = (sortI ks)[k] := by simp [Array.getD, hk']
  rw [e] at hm ⊢
  unfold sortD
  rw [List.getElem?_map, Array.getElem?_toList, Array.getElem?_eq_getElem hk']
  show some ((keyD ks).getD (sortI ks)[k] .none) = _
  rw [List.getD_eq_getElem?_getD, keyD_get hm]
  rfl
theorem law_extreme_ok (nm : Str) (kind : Int) (vs : List D) (ks : List Int) (hl : vs.length = ks.length) (h2 : 2 ≤ ks.length) (h4 : ks.length ≤ 4) (hdp : D.deepAll vs = true)
    (hk : ∀ (i : Nat) d, vs[i]? = some d → (kind = 0 ∧ d = .int (ks.getD i 0)) ∨ (kind ≠ 0 ∧ CallOk 1 (.ref 468) [d] (some (.int (ks.getD i 0))))) (hX : Bool) (hXe : hasX nm = hX) :
    CallOk 3 (.ref 516) [.str nm, .lst vs, .int kind] (some (vs.getD ((sortI ks).getD (if hX then ks.length - 1 else 0) 0) .none)) := by
  have deepAt : ∀ (L : List D) (j : Nat), D.deepAll L = true → (L.getD j .none).deep = true := by
    intro L
    induction L with
    | nil => intro j _; rfl
    | cons b L ih =>
      intro j hb
      simp only [D.deepAll, Bool.and_eq_true] at hb
      cases j with
      | zero => exact hb.1
      | succ j => exact ih j hb.2
  obtain ⟨hsz, hmx, hmn, _⟩ := sortI_max h2 h4
  refine CallOk.cell 83 ["name", "values", "kind"] g_law_extreme rfl (by kbt_split) (by decide +kernel) cells_some rfl rfl rfl (fun d h => by cases h; exact deepAt _ _ hdp) (fun c hn hs hcm => ?_)
  have hcomp := outE_keys hl
  refine Exs.assign (d := .lst (sortD ks)) (Ev.call (e_sorted (by assumption) rfl) (Evs.cons (d := .lst (keyD ks)) (hcomp ▸ Ev.compEnum (n := "kind") (dn := .int kind) (ns' := _) (by assumption) (e_enumerate (by assumption) rfl) (Ev.loc (by assumption) rfl rfl) hdp (by (first | lia | omega)) rfl ?_ ?_ ?_ ?_ ?_ ?_ rfl (fun env => by unfold closureFor; simp [List.forIn_cons, List.forIn_nil]) rfl rfl ?_ (by decide +kernel) (fun c' h1 h3 i d hd => ?_) (fun i d hd => rfl)) Evs.nil) (sorted_ok h2 h4) (Nat.zero_le _)) (by assumption) rfl ?_
  any_goals exact rfl
  · have hlk : ∀ p, Ev c' [(Str.ofString "value", d), (Str.ofString "at", .int (i : Int)), (Str.ofString "kind", .int kind)] (.Name "value" p) (some d) := fun p => Ev.loc h3 rfl rfl
    refine EvX.of (d := .tup [.int (ks.getD i 0), .int (i : Int)]) (Ev.tup (Evs.cons (d := .int (ks.getD i 0)) (Ev.if_ (p := kind == 0) (Tr.cmp (Ev.cel h3 rfl rfl) Ev.int cmp_eq) (fun hif => ?_) (fun hif => ?_)) (Evs.cons (Ev.loc h3 rfl rfl) Evs.nil)) (by rw [sizeLine_eq]; simp)) rfl
    · rcases hk i d hd with ⟨_, rfl⟩ | ⟨h0, _⟩
      · exact Ev.loc h3 rfl rfl
      · exact absurd (by simpa using hif) h0
    · rcases hk i d hd with ⟨h0, _⟩ | ⟨_, hc⟩
      · rw [h0] at hif; simp at hif
      · exact Ev.call (e_law_fixed h3 rfl) (Evs.cons (Ev.loc h3 rfl rfl) Evs.nil) hc (by (first | lia | omega))
  · have tst : ∀ (ρ : List (Str × D)) (p q r : Pos), ρ.lookup (Str.ofString "name") = some (.str nm) → Tr c ρ (.Compare (.Constant (.str "X") 0 p) [.In] [.Name "name" q] r) hX := fun ρ p q r hρ => Tr.cast (p := hasX nm) (Tr.cmp Ev.str (Ev.loc (by assumption) rfl hρ) cmp_inS) hXe
    have vget : ∀ m, m < ks.length → vs[((m : Nat) : Int).toNat]? = some (vs.getD m .none) := fun m hm => by
      have : m < vs.length := by (first | lia | omega)
      simp [this]
    cases hX with
    | true =>
      refine Exs.retd (Ev.idxL (k := ((sortI ks).getD (ks.length - 1) 0 : Nat)) (Ev.loc (by assumption) rfl rfl) (Ev.idx1 (s := .tup [.int (ks.getD ((sortI ks).getD (ks.length - 1) 0) 0), .int ((sortI ks).getD (ks.length - 1) 0 : Nat)]) (Ev.idxNeg (k := -1) (ds := sortD ks) (Ev.loc (by assumption) rfl rfl) (Ev.if_ (p := true) (tst _ _ _ _ rfl) (fun _ => Ev.neg Ev.int) (fun h => by cases h)) (by decide) ?_ ?_ ?_) rfl) (Int.natCast_nonneg _) (by (first | (clear tst hXe vget hcomp hcm hs hn hmn hsz deepAt hk hdp h2 hl; omega) | lia | omega)) (vget _ hmx)) rfl
      · simp [sortD, hsz]; lia
      · simp [sortD, hsz]; lia
      · have : (-1 + ((sortD ks).length : Int)).toNat = ks.length - 1 := by simp [sortD, hsz]; lia
        rw [this]
        exact sortD_get h2 h4 (by (first | (clear this tst hXe vget hcomp hcm hs hn hmn hmx hsz deepAt hk hdp h4 hl; omega) | lia | omega)) hmx
    | false =>
      refine Exs.retd (Ev.idxL (k := ((sortI ks).getD 0 0 : Nat)) (Ev.loc (by assumption) rfl rfl) (Ev.idx1 (s := .tup [.int (ks.getD ((sortI ks).getD 0 0) 0), .int ((sortI ks).getD 0 0 : Nat)]) (Ev.idxL (k := 0) (ds := sortD ks) (Ev.loc (by assumption) rfl rfl) (Ev.if_ (p := false) (tst _ _ _ _ rfl) (fun h => by cases h) (fun _ => Ev.int)) (by decide) (by decide) (sortD_get h2 h4 (by (first | lia | omega)) hmn)) rfl) (Int.natCast_nonneg _) (by (first | (clear tst hXe vget hcomp hcm hs hn hmx hsz deepAt hk hdp h2 hl; omega) | lia | omega)) (vget _ hmn)) rfl
end
section
noncomputable
def rowT : List (Str × List Int × Int) := [("INT", [0, 1, 2, 3], 1), ("REAL", [0, 1, 2, 3], 1), ("DBLE", [0, 1, 2, 3], 1), ("CMPLX", [1, 1, 3], 2), ("AINT", [1, 2], 1), ("ANINT", [1, 2], 1), ("ABS", [0, 1, 2], 1), ("MOD", [0, 1, 2], 2), ("SIGN", [0, 1, 2], 2), ("NINT", [1, 2], 1), ("DIM", [0, 1, 2], 2), ("DPROD", [1], 2), ("MAX", [0, 1, 2], 3), ("MIN", [0, 1, 2], 3), ("AMAX0", [0], 3), ("AMIN0", [0], 3), ("MAX1", [1], 3), ("MIN1", [1], 3), ("AIMAG", [3], 1), ("CONJG", [3], 1), ("ICHAR", [5], 1), ("CHAR", [0], 1), ("LEN", [5], 1), ("INDEX", [5], 2), ("LGE", [5], 2), ("LGT", [5], 2), ("LLE", [5], 2), ("LLT", [5], 2)]
noncomputable
def rowD (r : Str × List Int × Int) : D := .tup [.str r.1, .tup (r.2.1.map D.int), .int r.2.2]
theorem rowsDeep : D.deepAll (rowT.map rowD) = true := by decide +kernel
theorem law_rows_ok : CallOk 1 (.ref 454) [] (some (.lst (rowT.map rowD))) := by
  refine CallOk.fn 73 [] g_law_rows rfl (by intro vs pm cd doc hv; rw [List.length_eq_zero_iff.mp hv]; rfl) rfl rfl rfl rfl rfl rowsDeep (fun c hn hs => ?_)
  refine Exs.retd (d := .lst ?ds) (Ev.lst ?h ?z) ?e
  case h => repeat' (first | exact Evs.nil | refine' Evs.cons ?_ ?_ | exact Ev.str | exact Ev.int | refine' Ev.tup ?_ ?_ | (rw [sizeLine_eq]; simp only [List.length_cons, List.length_nil]; lia))
  case z => rw [sizeLine_eq]; simp only [List.length_cons, List.length_nil]; lia
  case e => rfl
end
section
set_option exponentiation.threshold 2000
noncomputable
def firstD (kind : Int) (vs : List D) (f : D) : Prop := (kind = 3 ∧ ∃ g, vs[0]? = some (.tup [f, g])) ∨ (kind ≠ 3 ∧ vs[0]? = some f)
theorem ev_digits {c : Cx} {ρ : List (Str × D)} {e : Expr} {kind : Int} {k1 k2 k3 : Nat} {p1 p2 p3 p4 p5 : Pos} (h : Ev c ρ e (some (.int kind))) (hm : autoParam (behindInMarks .Eq (.Constant (.int 1) k1 p1) = false) aiWu) :
    Ev c ρ (.IfExp (.Compare e [.Eq] [.Constant (.int 1) k1 p1] p2) (.Constant (.int 4) k2 p3) (.Constant (.int 9) k3 p4) p5) (some (.int (dg kind))) := by
  rw [← dg_cast]
  exact Ev.iteI (Tr.cmp h Ev.int cmp_eq hm) (fun _ => Ev.int) (fun _ => Ev.int)
theorem ev_first {c : Cx} {ρ : List (Str × D)} {e v v' : Expr} {kind : Int} {vs : List D} {f : D} {k1 k2 k3 k4 : Nat} {p1 p2 p3 p4 p5 p6 p7 p8 p9 : Pos} (h : Ev c ρ e (some (.int kind))) (hv : Ev c ρ v (some (.lst vs))) (hv' : Ev c ρ v' (some (.lst vs))) (hf : firstD kind vs f) (hm : autoParam (behindInMarks .Eq (.Constant (.int 3) k1 p1) = false) aiWu) :
    Ev c ρ (.IfExp (.Compare e [.Eq] [.Constant (.int 3) k1 p1] p2) (.Subscript (.Subscript v (.Constant (.int 0) k2 p3) p4) (.Constant (.int 0) k3 p5) p6) (.Subscript v' (.Constant (.int 0) k4 p7) p8) p9) (some f) := by
  refine Ev.if_ (p := kind == 3) (Tr.cmp h Ev.int cmp_eq hm) (fun hk => ?_) (fun hk => ?_)
  · rcases hf with ⟨_, g, hg⟩ | ⟨h3, _⟩
    · exact Ev.idx0 (s := .tup [f, g]) (Ev.idx0 (s := .lst vs) hv hg) rfl
    · exact absurd (by simpa using hk) h3
  · rcases hf with ⟨h3, _⟩ | ⟨_, hg⟩
    · rw [h3] at hk; simp at hk
    · exact Ev.idx0 (s := .lst vs) hv' hg
theorem orNone_deep (o : Option Int) : (orNone o).deep = true := by cases o <;> rfl
theorem mulOk40 {a : Int} (h : a.natAbs < 10 ^ 1000) : IntMulOk a (10 ^ 40) := mulOk_of h (by
  rw [show ((10 : Int) ^ 40).natAbs = 10 ^ 40 by decide]; exact Nat.pow_lt_pow_right (by decide) (by decide))
theorem ne_beq {a b : Int} (h : a ≠ b) : (a == b) = false := beq_eq_false_iff_ne.mpr h
theorem due_INT0 (n most : Int) (rest : List D) : CallOk 5 (.ref 521) [.str "INT", .int 0, .lst (.int n :: rest), .int most] (some (orNone (lint n most))) := by
  have con1 := law_int_ok n most
  refine CallOk.cell 84 ["name", "kind", "values", "most"] g_law_due rfl (by kbt_split) (by decide +kernel) cells_some rfl rfl rfl (fun d h => by cases h; exact orNone_deep _) (fun c hn hs hcm => ?_)
  refine Exs.assign (d := .int (dg 0)) (ev_digits (Ev.cel (by assumption) rfl rfl)) (by assumption) rfl ?_
  refine Exs.assign (d := (.int n)) ?hfirst (by assumption) rfl ?_
  case hfirst =>
    refine ev_first (vs := (.int n :: rest)) (kind := 0) ?_ ?_ ?_ (.inr ⟨by decide, rfl⟩)
    · exact Ev.cel (by assumption) rfl rfl
    · exact Ev.loc (by assumption) rfl rfl
    · exact Ev.loc (by assumption) rfl rfl
  refine Exs.if_ (p := false) (Tr.castP (Tr.cmp (Ev.cel (by assumption) rfl rfl) Ev.int cmp_eq) rfl) (fun h => by cases h) (fun _ => Exs.appNil ?_)
  refine Exs.skipEq (by assumption) rfl rfl (by decide +kernel) ?_
  refine Exs.takeEq (by assumption) rfl rfl (by decide +kernel) (Exs.appCons ?_)
  refine Exs.retd (Ev.call (e_law_int (by assumption) rfl) (Evs.cons (d := .int n) (Ev.if_ (p := (0 : Int) == 0) (Tr.cmp (Ev.cel (by assumption) rfl rfl) Ev.int cmp_eq) (fun _ => Ev.loc (by assumption) rfl rfl) (fun h => by cases h)) (Evs.cons (Ev.loc (by assumption) rfl rfl) Evs.nil)) con1 (by (first | lia | omega))) rfl
theorem due_INTr (kind most : Int) (vs : List D) (x : Int × Int) (h0 : kind ≠ 0) (h5 : kind ≠ 5) (hf : firstD kind vs (tupD x)) (hx : Md x) (hx2 : -40 ≤ x.2) : CallOk 5 (.ref 521) [.str "INT", .int kind, .lst vs, .int most] (some (orNone (lint (wholeI x false) most))) := by
  have con1 := law_int_ok (wholeI x false) most
  have con2 := law_whole_ok x false hx hx2
  refine CallOk.cell 84 ["name", "kind", "values", "most"] g_law_due rfl (by kbt_split) (by decide +kernel) cells_some rfl rfl rfl (fun d h => by cases h; exact orNone_deep _) (fun c hn hs hcm => ?_)
  refine Exs.assign (d := .int (dg kind)) (ev_digits (Ev.cel (by assumption) rfl rfl)) (by assumption) rfl ?_
  refine Exs.assign (d := (tupD x)) ?hfirst (by assumption) rfl ?_
  case hfirst =>
    refine ev_first (vs := vs) (kind := kind) ?_ ?_ ?_ (hf)
    · exact Ev.cel (by assumption) rfl rfl
    · exact Ev.loc (by assumption) rfl rfl
    · exact Ev.loc (by assumption) rfl rfl
  refine Exs.if_ (p := false) (Tr.castP (Tr.cmp (Ev.cel (by assumption) rfl rfl) Ev.int cmp_eq) (ne_beq h5)) (fun h => by cases h) (fun _ => Exs.appNil ?_)
  refine Exs.skipEq (by assumption) rfl rfl (by decide +kernel) ?_
  refine Exs.takeEq (by assumption) rfl rfl (by decide +kernel) (Exs.appCons ?_)
  refine Exs.retd (Ev.call (e_law_int (by assumption) rfl) (Evs.cons (d := .int (wholeI x false)) (Ev.if_ (p := false) (Tr.castP (Tr.cmp (Ev.cel (by assumption) rfl rfl) Ev.int cmp_eq) (ne_beq h0)) (fun h => by cases h) (fun _ => Ev.call (e_law_whole (by assumption) rfl) (Evs.cons (Ev.loc (by assumption) rfl rfl) (Evs.cons Ev.bool Evs.nil)) con2 (by (first | lia | omega)))) (Evs.cons (Ev.loc (by assumption) rfl rfl) Evs.nil)) con1 (by (first | lia | omega))) rfl
theorem due_REAL0 (n most : Int) (rest : List D) (hn1 : n.natAbs < 10 ^ 300) : CallOk 5 (.ref 521) [.str "REAL", .int 0, .lst (.int n :: rest), .int most] (some (tupD (told (n * 10 ^ 40) 4))) := by
  have con1 := law_told_ok (n * 10 ^ 40) 4 (by decide) (by decide) (cd_le_of (by rw [natAbs_mulpow]; exact Nat.lt_of_lt_of_le (Nat.mul_lt_mul_of_pos_right hn1 (by decide)) (by rw [← Nat.pow_add]; exact Nat.pow_le_pow_right (by decide) (by decide))))
  refine CallOk.cell 84 ["name", "kind", "values", "most"] g_law_due rfl (by kbt_split) (by decide +kernel) cells_some rfl rfl rfl (fun d h => by cases h; rfl) (fun c hn hs hcm => ?_)
  refine Exs.assign (d := .int (dg 0)) (ev_digits (Ev.cel (by assumption) rfl rfl)) (by assumption) rfl ?_
  refine Exs.assign (d := (.int n)) ?hfirst (by assumption) rfl ?_
  case hfirst =>
    refine ev_first (vs := (.int n :: rest)) (kind := 0) ?_ ?_ ?_ (.inr ⟨by decide, rfl⟩)
    · exact Ev.cel (by assumption) rfl rfl
    · exact Ev.loc (by assumption) rfl rfl
    · exact Ev.loc (by assumption) rfl rfl
  refine Exs.if_ (p := false) (Tr.castP (Tr.cmp (Ev.cel (by assumption) rfl rfl) Ev.int cmp_eq) rfl) (fun h => by cases h) (fun _ => Exs.appNil ?_)
  refine Exs.skipEq (by assumption) rfl rfl (by decide +kernel) ?_
  refine Exs.skipEq (by assumption) rfl rfl (by decide +kernel) ?_
  refine Exs.takeIn (by assumption) rfl rfl (by decide +kernel) (by decide +kernel) (by decide +kernel) (Exs.appCons ?_)
  refine Exs.retd (Ev.call (e_law_told (by assumption) rfl) (Evs.cons (d := .int (n * 10 ^ 40)) (Ev.if_ (p := (0 : Int) == 0) (Tr.cmp (Ev.cel (by assumption) rfl rfl) Ev.int cmp_eq) (fun _ => Ev.bin (Ev.loc (by assumption) rfl rfl) (Ev.call (e_law_one (by assumption) rfl) Evs.nil law_one_ok (by (first | lia | omega))) (bin_mul (mulOk40 (Nat.lt_of_lt_of_le hn1 (Nat.pow_le_pow_right (by decide) (by decide)))))) (fun h => by cases h)) (Evs.cons (d := .int 4) (Ev.if_ (p := true) (Tr.castP (Tr.cmp (Ev.loc (by assumption) rfl rfl) Ev.str cmp_eqS) (by decide +kernel)) (fun h => by first | exact Ev.int | cases h) (fun h => by first | exact Ev.int | cases h)) Evs.nil)) con1 (by (first | lia | omega))) rfl
theorem due_REALr (kind most : Int) (vs : List D) (x : Int × Int) (h0 : kind ≠ 0) (h5 : kind ≠ 5) (hf : firstD kind vs (tupD x)) (hx : Md x) (hx2 : -40 ≤ x.2) (hcd : cd (FX x).natAbs ≤ 400) : CallOk 5 (.ref 521) [.str "REAL", .int kind, .lst vs, .int most] (some (tupD (told (FX x) 4))) := by
  have con1 := law_told_ok (FX x) 4 (by decide) (by decide) hcd
  have con2 := law_fixed_ok x hx hx2
  refine CallOk.cell 84 ["name", "kind", "values", "most"] g_law_due rfl (by kbt_split) (by decide +kernel) cells_some rfl rfl rfl (fun d h => by cases h; rfl) (fun c hn hs hcm => ?_)
  refine Exs.assign (d := .int (dg kind)) (ev_digits (Ev.cel (by assumption) rfl rfl)) (by assumption) rfl ?_
  refine Exs.assign (d := (tupD x)) ?hfirst (by assumption) rfl ?_
  case hfirst =>
    refine ev_first (vs := vs) (kind := kind) ?_ ?_ ?_ (hf)
    · exact Ev.cel (by assumption) rfl rfl
    · exact Ev.loc (by assumption) rfl rfl
    · exact Ev.loc (by assumption) rfl rfl
  refine Exs.if_ (p := false) (Tr.castP (Tr.cmp (Ev.cel (by assumption) rfl rfl) Ev.int cmp_eq) (ne_beq h5)) (fun h => by cases h) (fun _ => Exs.appNil ?_)
  refine Exs.skipEq (by assumption) rfl rfl (by decide +kernel) ?_
  refine Exs.skipEq (by assumption) rfl rfl (by decide +kernel) ?_
  refine Exs.takeIn (by assumption) rfl rfl (by decide +kernel) (by decide +kernel) (by decide +kernel) (Exs.appCons ?_)
  refine Exs.retd (Ev.call (e_law_told (by assumption) rfl) (Evs.cons (d := .int (FX x)) (Ev.if_ (p := false) (Tr.castP (Tr.cmp (Ev.cel (by assumption) rfl rfl) Ev.int cmp_eq) (ne_beq h0)) (fun h => by cases h) (fun _ => Ev.call (e_law_fixed (by assumption) rfl) (Evs.cons (Ev.loc (by assumption) rfl rfl) Evs.nil) con2 (by (first | lia | omega)))) (Evs.cons (d := .int 4) (Ev.if_ (p := true) (Tr.castP (Tr.cmp (Ev.loc (by assumption) rfl rfl) Ev.str cmp_eqS) (by decide +kernel)) (fun h => by first | exact Ev.int | cases h) (fun h => by first | exact Ev.int | cases h)) Evs.nil)) con1 (by (first | lia | omega))) rfl
theorem due_DBLE0 (n most : Int) (rest : List D) (hn1 : n.natAbs < 10 ^ 300) : CallOk 5 (.ref 521) [.str "DBLE", .int 0, .lst (.int n :: rest), .int most] (some (tupD (told (n * 10 ^ 40) 9))) := by
  have con1 := law_told_ok (n * 10 ^ 40) 9 (by decide) (by decide) (cd_le_of (by rw [natAbs_mulpow]; exact Nat.lt_of_lt_of_le (Nat.mul_lt_mul_of_pos_right hn1 (by decide)) (by rw [← Nat.pow_add]; exact Nat.pow_le_pow_right (by decide) (by decide))))
  refine CallOk.cell 84 ["name", "kind", "values", "most"] g_law_due rfl (by kbt_split) (by decide +kernel) cells_some rfl rfl rfl (fun d h => by cases h; rfl) (fun c hn hs hcm => ?_)
  refine Exs.assign (d := .int (dg 0)) (ev_digits (Ev.cel (by assumption) rfl rfl)) (by assumption) rfl ?_
  refine Exs.assign (d := (.int n)) ?hfirst (by assumption) rfl ?_
  case hfirst =>
    refine ev_first (vs := (.int n :: rest)) (kind := 0) ?_ ?_ ?_ (.inr ⟨by decide, rfl⟩)
    · exact Ev.cel (by assumption) rfl rfl
    · exact Ev.loc (by assumption) rfl rfl
    · exact Ev.loc (by assumption) rfl rfl
  refine Exs.if_ (p := false) (Tr.castP (Tr.cmp (Ev.cel (by assumption) rfl rfl) Ev.int cmp_eq) rfl) (fun h => by cases h) (fun _ => Exs.appNil ?_)
  refine Exs.skipEq (by assumption) rfl rfl (by decide +kernel) ?_
  refine Exs.skipEq (by assumption) rfl rfl (by decide +kernel) ?_
  refine Exs.takeIn (by assumption) rfl rfl (by decide +kernel) (by decide +kernel) (by decide +kernel) (Exs.appCons ?_)
  refine Exs.retd (Ev.call (e_law_told (by assumption) rfl) (Evs.cons (d := .int (n * 10 ^ 40)) (Ev.if_ (p := (0 : Int) == 0) (Tr.cmp (Ev.cel (by assumption) rfl rfl) Ev.int cmp_eq) (fun _ => Ev.bin (Ev.loc (by assumption) rfl rfl) (Ev.call (e_law_one (by assumption) rfl) Evs.nil law_one_ok (by (first | lia | omega))) (bin_mul (mulOk40 (Nat.lt_of_lt_of_le hn1 (Nat.pow_le_pow_right (by decide) (by decide)))))) (fun h => by cases h)) (Evs.cons (d := .int 9) (Ev.if_ (p := false) (Tr.castP (Tr.cmp (Ev.loc (by assumption) rfl rfl) Ev.str cmp_eqS) (by decide +kernel)) (fun h => by first | exact Ev.int | cases h) (fun h => by first | exact Ev.int | cases h)) Evs.nil)) con1 (by (first | lia | omega))) rfl
theorem due_DBLEr (kind most : Int) (vs : List D) (x : Int × Int) (h0 : kind ≠ 0) (h5 : kind ≠ 5) (hf : firstD kind vs (tupD x)) (hx : Md x) (hx2 : -40 ≤ x.2) (hcd : cd (FX x).natAbs ≤ 400) : CallOk 5 (.ref 521) [.str "DBLE", .int kind, .lst vs, .int most] (some (tupD (told (FX x) 9))) := by
  have con1 := law_told_ok (FX x) 9 (by decide) (by decide) hcd
  have con2 := law_fixed_ok x hx hx2
  refine CallOk.cell 84 ["name", "kind", "values", "most"] g_law_due rfl (by kbt_split) (by decide +kernel) cells_some rfl rfl rfl (fun d h => by cases h; rfl) (fun c hn hs hcm => ?_)
  refine Exs.assign (d := .int (dg kind)) (ev_digits (Ev.cel (by assumption) rfl rfl)) (by assumption) rfl ?_
  refine Exs.assign (d := (tupD x)) ?hfirst (by assumption) rfl ?_
  case hfirst =>
    refine ev_first (vs := vs) (kind := kind) ?_ ?_ ?_ (hf)
    · exact Ev.cel (by assumption) rfl rfl
    · exact Ev.loc (by assumption) rfl rfl
    · exact Ev.loc (by assumption) rfl rfl
  refine Exs.if_ (p := false) (Tr.castP (Tr.cmp (Ev.cel (by assumption) rfl rfl) Ev.int cmp_eq) (ne_beq h5)) (fun h => by cases h) (fun _ => Exs.appNil ?_)
  refine Exs.skipEq (by assumption) rfl rfl (by decide +kernel) ?_
  refine Exs.skipEq (by assumption) rfl rfl (by decide +kernel) ?_
  refine Exs.takeIn (by assumption) rfl rfl (by decide +kernel) (by decide +kernel) (by decide +kernel) (Exs.appCons ?_)
  refine Exs.retd (Ev.call (e_law_told (by assumption) rfl) (Evs.cons (d := .int (FX x)) (Ev.if_ (p := false) (Tr.castP (Tr.cmp (Ev.cel (by assumption) rfl rfl) Ev.int cmp_eq) (ne_beq h0)) (fun h => by cases h) (fun _ => Ev.call (e_law_fixed (by assumption) rfl) (Evs.cons (Ev.loc (by assumption) rfl rfl) Evs.nil) con2 (by (first | lia | omega)))) (Evs.cons (d := .int 9) (Ev.if_ (p := false) (Tr.castP (Tr.cmp (Ev.loc (by assumption) rfl rfl) Ev.str cmp_eqS) (by decide +kernel)) (fun h => by first | exact Ev.int | cases h) (fun h => by first | exact Ev.int | cases h)) Evs.nil)) con1 (by (first | lia | omega))) rfl
theorem due_CMPLX3 (most : Int) (f g : D) (rest : List D) (hd : (D.tup [f, g]).deep = true) : CallOk 5 (.ref 521) [.str "CMPLX", .int 3, .lst (.tup [f, g] :: rest), .int most] (some (.tup [f, g])) := by
  refine CallOk.cell 84 ["name", "kind", "values", "most"] g_law_due rfl (by kbt_split) (by decide +kernel) cells_some rfl rfl rfl (fun d h => by cases h; exact hd) (fun c hn hs hcm => ?_)
  refine Exs.assign (d := .int (dg 3)) (ev_digits (Ev.cel (by assumption) rfl rfl)) (by assumption) rfl ?_
  refine Exs.assign (d := f) ?hfirst (by assumption) rfl ?_
  case hfirst =>
    refine ev_first (vs := (.tup [f, g] :: rest)) (kind := 3) ?_ ?_ ?_ (.inl ⟨rfl, g, rfl⟩)
    · exact Ev.cel (by assumption) rfl rfl
    · exact Ev.loc (by assumption) rfl rfl
    · exact Ev.loc (by assumption) rfl rfl
  refine Exs.if_ (p := false) (Tr.castP (Tr.cmp (Ev.cel (by assumption) rfl rfl) Ev.int cmp_eq) rfl) (fun h => by cases h) (fun _ => Exs.appNil ?_)
  refine Exs.skipEq (by assumption) rfl rfl (by decide +kernel) ?_
  refine Exs.skipEq (by assumption) rfl rfl (by decide +kernel) ?_
  refine Exs.skipIn (by assumption) rfl rfl (by decide +kernel) (by decide +kernel) (by decide +kernel) ?_
  refine Exs.takeEq (by assumption) rfl rfl (by decide +kernel) (Exs.appCons ?_)
  refine Exs.retd (Ev.if_ (p := (3 : Int) == 3) (Tr.cmp (Ev.cel (by assumption) rfl rfl) Ev.int cmp_eq) (fun _ => Ev.idx0 (s := .lst (.tup [f, g] :: rest)) (Ev.loc (by assumption) rfl rfl) rfl) (fun h => by cases h)) rfl
theorem due_CMPLX1 (most : Int) (f g : D) (rest : List D) (hrest : rest.length ≤ 10) (hg : (f :: rest ++ [tupD (0, 0)])[1]? = some g) (hd : (D.tup [f, g]).deep = true) : CallOk 5 (.ref 521) [.str "CMPLX", .int 1, .lst (f :: rest), .int most] (some (.tup [f, g])) := by
  refine CallOk.cell 84 ["name", "kind", "values", "most"] g_law_due rfl (by kbt_split) (by decide +kernel) cells_some rfl rfl rfl (fun d h => by cases h; exact hd) (fun c hn hs hcm => ?_)
  refine Exs.assign (d := .int (dg 1)) (ev_digits (Ev.cel (by assumption) rfl rfl)) (by assumption) rfl ?_
  refine Exs.assign (d := f) ?hfirst (by assumption) rfl ?_
  case hfirst =>
    refine ev_first (vs := (f :: rest)) (kind := 1) ?_ ?_ ?_ (.inr ⟨by decide, rfl⟩)
    · exact Ev.cel (by assumption) rfl rfl
    · exact Ev.loc (by assumption) rfl rfl
    · exact Ev.loc (by assumption) rfl rfl
  refine Exs.if_ (p := false) (Tr.castP (Tr.cmp (Ev.cel (by assumption) rfl rfl) Ev.int cmp_eq) rfl) (fun h => by cases h) (fun _ => Exs.appNil ?_)
  refine Exs.skipEq (by assumption) rfl rfl (by decide +kernel) ?_
  refine Exs.skipEq (by assumption) rfl rfl (by decide +kernel) ?_
  refine Exs.skipIn (by assumption) rfl rfl (by decide +kernel) (by decide +kernel) (by decide +kernel) ?_
  refine Exs.takeEq (by assumption) rfl rfl (by decide +kernel) (Exs.appCons ?_)
  refine Exs.retd (Ev.if_ (p := (1 : Int) == 3) (Tr.cmp (Ev.cel (by assumption) rfl rfl) Ev.int cmp_eq) (fun h => by cases h) (fun _ => Ev.tup (Evs.cons (d := f) (Ev.idx0 (s := .lst (f :: rest)) (Ev.loc (by assumption) rfl rfl) rfl) (Evs.cons (d := g) (Ev.idx1 (s := .lst (f :: rest ++ [tupD (0, 0)])) (Ev.bin (Ev.loc (by assumption) rfl rfl) (Ev.lst (Evs.cons (d := tupD (0, 0)) (Ev.tup (Evs.cons Ev.int (Evs.cons Ev.int Evs.nil)) (by rw [sizeLine_eq]; simp)) Evs.nil) (by rw [sizeLine_eq]; simp)) (bin_addL (by rw [sizeLine_eq]; simp; lia))) hg) Evs.nil)) (by rw [sizeLine_eq]; simp))) rfl
theorem due_AINT (kind most : Int) (vs : List D) (x : Int × Int) (h5 : kind ≠ 5) (hf : firstD kind vs (tupD x)) (hx : Md x) (hx2 : -40 ≤ x.2) (hw : (wholeI x false).natAbs < 10 ^ 300) : CallOk 5 (.ref 521) [.str "AINT", .int kind, .lst vs, .int most] (some (tupD (told (wholeI x false * 10 ^ 40) (dg kind)))) := by
  have con1 := law_told_ok (wholeI x false * 10 ^ 40) (dg kind) (dg_pos kind) (by unfold dg; split <;> decide) (cd_le_of (by rw [natAbs_mulpow]; exact Nat.lt_of_lt_of_le (Nat.mul_lt_mul_of_pos_right hw (by decide)) (by rw [← Nat.pow_add]; exact Nat.pow_le_pow_right (by decide) (by decide))))
  have con2 := law_whole_ok x false hx hx2
  refine CallOk.cell 84 ["name", "kind", "values", "most"] g_law_due rfl (by kbt_split) (by decide +kernel) cells_some rfl rfl rfl (fun d h => by cases h; rfl) (fun c hn hs hcm => ?_)
  refine Exs.assign (d := .int (dg kind)) (ev_digits (Ev.cel (by assumption) rfl rfl)) (by assumption) rfl ?_
  refine Exs.assign (d := (tupD x)) ?hfirst (by assumption) rfl ?_
  case hfirst =>
    refine ev_first (vs := vs) (kind := kind) ?_ ?_ ?_ (hf)
    · exact Ev.cel (by assumption) rfl rfl
    · exact Ev.loc (by assumption) rfl rfl
    · exact Ev.loc (by assumption) rfl rfl
  refine Exs.if_ (p := false) (Tr.castP (Tr.cmp (Ev.cel (by assumption) rfl rfl) Ev.int cmp_eq) (ne_beq h5)) (fun h => by cases h) (fun _ => Exs.appNil ?_)
  refine Exs.skipEq (by assumption) rfl rfl (by decide +kernel) ?_
  refine Exs.skipEq (by assumption) rfl rfl (by decide +kernel) ?_
  refine Exs.skipIn (by assumption) rfl rfl (by decide +kernel) (by decide +kernel) (by decide +kernel) ?_
  refine Exs.skipEq (by assumption) rfl rfl (by decide +kernel) ?_
  refine Exs.takeIn (by assumption) rfl rfl (by decide +kernel) (by decide +kernel) (by decide +kernel) (Exs.appCons ?_)
  refine Exs.retd (Ev.call (e_law_told (by assumption) rfl) (Evs.cons (d := .int (wholeI x false * 10 ^ 40)) (Ev.bin (Ev.call (e_law_whole (by assumption) rfl) (Evs.cons (Ev.loc (by assumption) rfl rfl) (Evs.cons (d := .bool false) (Ev.cast (Ev.cmp (Ev.loc (by assumption) rfl rfl) Ev.str cmp_eqS) (congrArg D.bool (by decide +kernel))) Evs.nil)) con2 (by (first | lia | omega))) (Ev.call (e_law_one (by assumption) rfl) Evs.nil law_one_ok (by (first | lia | omega))) (bin_mul (mulOk40 (Nat.lt_of_lt_of_le hw (Nat.pow_le_pow_right (by decide) (by decide)))))) (Evs.cons (Ev.loc (by assumption) rfl rfl) Evs.nil)) con1 (by (first | lia | omega))) rfl
theorem due_ANINT (kind most : Int) (vs : List D) (x : Int × Int) (h5 : kind ≠ 5) (hf : firstD kind vs (tupD x)) (hx : Md x) (hx2 : -40 ≤ x.2) (hw : (wholeI x true).natAbs < 10 ^ 300) : CallOk 5 (.ref 521) [.str "ANINT", .int kind, .lst vs, .int most] (some (tupD (told (wholeI x true * 10 ^ 40) (dg kind)))) := by
  have con1 := law_told_ok (wholeI x true * 10 ^ 40) (dg kind) (dg_pos kind) (by unfold dg; split <;> decide) (cd_le_of (by rw [natAbs_mulpow]; exact Nat.lt_of_lt_of_le (Nat.mul_lt_mul_of_pos_right hw (by decide)) (by rw [← Nat.pow_add]; exact Nat.pow_le_pow_right (by decide) (by decide))))
  have con2 := law_whole_ok x true hx hx2
  refine CallOk.cell 84 ["name", "kind", "values", "most"] g_law_due rfl (by kbt_split) (by decide +kernel) cells_some rfl rfl rfl (fun d h => by cases h; rfl) (fun c hn hs hcm => ?_)
  refine Exs.assign (d := .int (dg kind)) (ev_digits (Ev.cel (by assumption) rfl rfl)) (by assumption) rfl ?_
  refine Exs.assign (d := (tupD x)) ?hfirst (by assumption) rfl ?_
  case hfirst =>
    refine ev_first (vs := vs) (kind := kind) ?_ ?_ ?_ (hf)
    · exact Ev.cel (by assumption) rfl rfl
    · exact Ev.loc (by assumption) rfl rfl
    · exact Ev.loc (by assumption) rfl rfl
  refine Exs.if_ (p := false) (Tr.castP (Tr.cmp (Ev.cel (by assumption) rfl rfl) Ev.int cmp_eq) (ne_beq h5)) (fun h => by cases h) (fun _ => Exs.appNil ?_)
  refine Exs.skipEq (by assumption) rfl rfl (by decide +kernel) ?_
  refine Exs.skipEq (by assumption) rfl rfl (by decide +kernel) ?_
  refine Exs.skipIn (by assumption) rfl rfl (by decide +kernel) (by decide +kernel) (by decide +kernel) ?_
  refine Exs.skipEq (by assumption) rfl rfl (by decide +kernel) ?_
  refine Exs.takeIn (by assumption) rfl rfl (by decide +kernel) (by decide +kernel) (by decide +kernel) (Exs.appCons ?_)
  refine Exs.retd (Ev.call (e_law_told (by assumption) rfl) (Evs.cons (d := .int (wholeI x true * 10 ^ 40)) (Ev.bin (Ev.call (e_law_whole (by assumption) rfl) (Evs.cons (Ev.loc (by assumption) rfl rfl) (Evs.cons (d := .bool true) (Ev.cast (Ev.cmp (Ev.loc (by assumption) rfl rfl) Ev.str cmp_eqS) (congrArg D.bool (by decide +kernel))) Evs.nil)) con2 (by (first | lia | omega))) (Ev.call (e_law_one (by assumption) rfl) Evs.nil law_one_ok (by (first | lia | omega))) (bin_mul (mulOk40 (Nat.lt_of_lt_of_le hw (Nat.pow_le_pow_right (by decide) (by decide)))))) (Evs.cons (Ev.loc (by assumption) rfl rfl) Evs.nil)) con1 (by (first | lia | omega))) rfl
theorem due_NINT (kind most : Int) (vs : List D) (x : Int × Int) (h5 : kind ≠ 5) (hf : firstD kind vs (tupD x)) (hx : Md x) (hx2 : -40 ≤ x.2) : CallOk 5 (.ref 521) [.str "NINT", .int kind, .lst vs, .int most] (some (orNone (lint (wholeI x true) most))) := by
  have con1 := law_int_ok (wholeI x true) most
  have con2 := law_whole_ok x true hx hx2
  refine CallOk.cell 84 ["name", "kind", "values", "most"] g_law_due rfl (by kbt_split) (by decide +kernel) cells_some rfl rfl rfl (fun d h => by cases h; exact orNone_deep _) (fun c hn hs hcm => ?_)
  refine Exs.assign (d := .int (dg kind)) (ev_digits (Ev.cel (by assumption) rfl rfl)) (by assumption) rfl ?_
  refine Exs.assign (d := (tupD x)) ?hfirst (by assumption) rfl ?_
  case hfirst =>
    refine ev_first (vs := vs) (kind := kind) ?_ ?_ ?_ (hf)
    · exact Ev.cel (by assumption) rfl rfl
    · exact Ev.loc (by assumption) rfl rfl
    · exact Ev.loc (by assumption) rfl rfl
  refine Exs.if_ (p := false) (Tr.castP (Tr.cmp (Ev.cel (by assumption) rfl rfl) Ev.int cmp_eq) (ne_beq h5)) (fun h => by cases h) (fun _ => Exs.appNil ?_)
  refine Exs.skipEq (by assumption) rfl rfl (by decide +kernel) ?_
  refine Exs.skipEq (by assumption) rfl rfl (by decide +kernel) ?_
  refine Exs.skipIn (by assumption) rfl rfl (by decide +kernel) (by decide +kernel) (by decide +kernel) ?_
  refine Exs.skipEq (by assumption) rfl rfl (by decide +kernel) ?_
  refine Exs.skipIn (by assumption) rfl rfl (by decide +kernel) (by decide +kernel) (by decide +kernel) ?_
  refine Exs.takeEq (by assumption) rfl rfl (by decide +kernel) (Exs.appCons ?_)
  refine Exs.retd (Ev.call (e_law_int (by assumption) rfl) (Evs.cons (d := .int (wholeI x true)) (Ev.call (e_law_whole (by assumption) rfl) (Evs.cons (Ev.loc (by assumption) rfl rfl) (Evs.cons Ev.bool Evs.nil)) con2 (by (first | lia | omega))) (Evs.cons (Ev.loc (by assumption) rfl rfl) Evs.nil)) con1 (by (first | lia | omega))) rfl
end
section
set_option exponentiation.threshold 2000
theorem due_DPROD (kind most : Int) (x y : Int × Int) (h3 : kind ≠ 3) (h5 : kind ≠ 5) (hx : x.1.natAbs < 10 ^ 300) (hy : y.1.natAbs < 10 ^ 300) (he : 0 ≤ 40 + x.2 + y.2) (he2 : 40 + x.2 + y.2 ≤ 300) (hcd : cd (x.1 * y.1 * 10 ^ (40 + x.2 + y.2).toNat).natAbs ≤ 400) : CallOk 5 (.ref 521) [.str "DPROD", .int kind, .lst [tupD x, tupD y], .int most] (some (tupD (told (x.1 * y.1 * 10 ^ (40 + x.2 + y.2).toNat) 9))) := by
  have con1 := law_told_ok (x.1 * y.1 * 10 ^ (40 + x.2 + y.2).toNat) 9 (by decide) (by decide) hcd
  have m1 : IntMulOk x.1 y.1 := mulOk_of (Nat.lt_of_lt_of_le hx (Nat.pow_le_pow_right (by decide) (by decide))) (Nat.lt_of_lt_of_le hy (Nat.pow_le_pow_right (by decide) (by decide)))
  have m2 : IntMulOk (x.1 * y.1) (10 ^ (40 + x.2 + y.2).toNat) := mulOk_pow (by
    unfold Sm; rw [Int.natAbs_mul]; exact Nat.lt_of_lt_of_le (Nat.mul_lt_mul_of_lt_of_lt hx hy) (by rw [← Nat.pow_add]; exact Nat.pow_le_pow_right (by decide) (by decide))) (by (first | lia | omega))
  refine CallOk.cell 84 ["name", "kind", "values", "most"] g_law_due rfl (by kbt_split) (by decide +kernel) cells_some rfl rfl rfl (fun d h => by cases h; rfl) (fun c hn hs hcm => ?_)
  refine Exs.assign (d := .int (dg kind)) (ev_digits (Ev.cel (by assumption) rfl rfl)) (by assumption) rfl ?_
  refine Exs.assign (d := (tupD x)) ?hfirst (by assumption) rfl ?_
  case hfirst =>
    refine ev_first (vs := [tupD x, tupD y]) (kind := kind) ?_ ?_ ?_ (.inr ⟨h3, rfl⟩)
    · exact Ev.cel (by assumption) rfl rfl
    · exact Ev.loc (by assumption) rfl rfl
    · exact Ev.loc (by assumption) rfl rfl
  refine Exs.if_ (p := false) (Tr.castP (Tr.cmp (Ev.cel (by assumption) rfl rfl) Ev.int cmp_eq) (ne_beq h5)) (fun h => by cases h) (fun _ => Exs.appNil ?_)
  refine Exs.skipEq (by assumption) rfl rfl (by decide +kernel) ?_
  refine Exs.skipEq (by assumption) rfl rfl (by decide +kernel) ?_
  refine Exs.skipIn (by assumption) rfl rfl (by decide +kernel) (by decide +kernel) (by decide +kernel) ?_
  refine Exs.skipEq (by assumption) rfl rfl (by decide +kernel) ?_
  refine Exs.skipIn (by assumption) rfl rfl (by decide +kernel) (by decide +kernel) (by decide +kernel) ?_
  refine Exs.skipEq (by assumption) rfl rfl (by decide +kernel) ?_
  refine Exs.takeEq (by assumption) rfl rfl (by decide +kernel) (Exs.appCons ?_)
  have a0 : ∀ {ρ : List (Str × D)} {p q r : Pos} {k : Nat}, ρ.lookup (Str.ofString "values") = some (.lst [tupD x, tupD y]) → Ev c ρ (.Subscript (.Name "values" p) (.Constant (.int 0) k q) r) (some (tupD x)) := fun h => Ev.idx0 (s := .lst [tupD x, tupD y]) (Ev.loc (by assumption) rfl h) rfl
  have a1 : ∀ {ρ : List (Str × D)} {p q r : Pos} {k : Nat}, ρ.lookup (Str.ofString "values") = some (.lst [tupD x, tupD y]) → Ev c ρ (.Subscript (.Name "values" p) (.Constant (.int 1) k q) r) (some (tupD y)) := fun h => Ev.idx1 (s := .lst [tupD x, tupD y]) (Ev.loc (by assumption) rfl h) rfl
  refine Exs.retd (Ev.call (e_law_told (by assumption) rfl) (Evs.cons (d := .int (x.1 * y.1 * 10 ^ (40 + x.2 + y.2).toNat)) (Ev.bin (a := .int (x.1 * y.1)) (b := .int (10 ^ (40 + x.2 + y.2).toNat)) (Ev.bin (a := .int x.1) (b := .int y.1) (Ev.idx0 (s := tupD x) (a0 rfl) rfl) (Ev.idx0 (s := tupD y) (a1 rfl) rfl) (bin_mul m1)) (Ev.bin (a := .int 10) (b := .int (40 + x.2 + y.2)) Ev.int (Ev.bin (a := .int (40 + x.2)) (b := .int y.2) (Ev.bin (a := .int 40) (b := .int x.2) Ev.int (Ev.idx1 (s := tupD x) (a0 rfl) rfl) bin_add) (Ev.idx1 (s := tupD y) (a1 rfl) rfl) bin_add) (bin_pow he (by (first | lia | omega)) (by decide))) (bin_mul m2)) (Evs.cons Ev.int Evs.nil)) con1 (by (first | lia | omega))) rfl
theorem due_AIMAG (most : Int) (x y : Int × Int) (rest : List D) : CallOk 5 (.ref 521) [.str "AIMAG", .int 3, .lst (.tup [tupD x, tupD y] :: rest), .int most] (some (tupD y)) := by
  refine CallOk.cell 84 ["name", "kind", "values", "most"] g_law_due rfl (by kbt_split) (by decide +kernel) cells_some rfl rfl rfl (fun d h => by cases h; rfl) (fun c hn hs hcm => ?_)
  refine Exs.assign (d := .int (dg 3)) (ev_digits (Ev.cel (by assumption) rfl rfl)) (by assumption) rfl ?_
  refine Exs.assign (d := (tupD x)) ?hfirst (by assumption) rfl ?_
  case hfirst =>
    refine ev_first (vs := (.tup [tupD x, tupD y] :: rest)) (kind := 3) ?_ ?_ ?_ (.inl ⟨rfl, tupD y, rfl⟩)
    · exact Ev.cel (by assumption) rfl rfl
    · exact Ev.loc (by assumption) rfl rfl
    · exact Ev.loc (by assumption) rfl rfl
  refine Exs.if_ (p := false) (Tr.castP (Tr.cmp (Ev.cel (by assumption) rfl rfl) Ev.int cmp_eq) rfl) (fun h => by cases h) (fun _ => Exs.appNil ?_)
  refine Exs.skipEq (by assumption) rfl rfl (by decide +kernel) ?_
  refine Exs.skipEq (by assumption) rfl rfl (by decide +kernel) ?_
  refine Exs.skipIn (by assumption) rfl rfl (by decide +kernel) (by decide +kernel) (by decide +kernel) ?_
  refine Exs.skipEq (by assumption) rfl rfl (by decide +kernel) ?_
  refine Exs.skipIn (by assumption) rfl rfl (by decide +kernel) (by decide +kernel) (by decide +kernel) ?_
  refine Exs.skipEq (by assumption) rfl rfl (by decide +kernel) ?_
  refine Exs.skipEq (by assumption) rfl rfl (by decide +kernel) ?_
  refine Exs.takeIn (by assumption) rfl rfl (by decide +kernel) (by decide +kernel) (by decide +kernel) (Exs.appCons ?_)
  refine Exs.assign (d := tupD y) ?hoth (by assumption) rfl ?_
  case hoth =>
    refine Ev.idx1 (s := .tup [tupD x, tupD y]) (Ev.idx0 (s := .lst (.tup [tupD x, tupD y] :: rest)) ?_ rfl) rfl
    exact Ev.loc (by assumption) rfl rfl
  refine Exs.retd (Ev.if_ (p := true) (Tr.castP (Tr.cmp (Ev.loc (by assumption) rfl rfl) Ev.str cmp_eqS) (by decide +kernel)) (fun h => ?_) (fun h => ?_)) rfl
  · exact Ev.loc (by assumption) rfl rfl
  · cases h
theorem due_CONJG (most : Int) (x y : Int × Int) (rest : List D) : CallOk 5 (.ref 521) [.str "CONJG", .int 3, .lst (.tup [tupD x, tupD y] :: rest), .int most] (some (.tup [tupD x, tupD (-y.1, y.2)])) := by
  refine CallOk.cell 84 ["name", "kind", "values", "most"] g_law_due rfl (by kbt_split) (by decide +kernel) cells_some rfl rfl rfl (fun d h => by cases h; rfl) (fun c hn hs hcm => ?_)
  refine Exs.assign (d := .int (dg 3)) (ev_digits (Ev.cel (by assumption) rfl rfl)) (by assumption) rfl ?_
  refine Exs.assign (d := (tupD x)) ?hfirst (by assumption) rfl ?_
  case hfirst =>
    refine ev_first (vs := (.tup [tupD x, tupD y] :: rest)) (kind := 3) ?_ ?_ ?_ (.inl ⟨rfl, tupD y, rfl⟩)
    · exact Ev.cel (by assumption) rfl rfl
    · exact Ev.loc (by assumption) rfl rfl
    · exact Ev.loc (by assumption) rfl rfl
  refine Exs.if_ (p := false) (Tr.castP (Tr.cmp (Ev.cel (by assumption) rfl rfl) Ev.int cmp_eq) rfl) (fun h => by cases h) (fun _ => Exs.appNil ?_)
  refine Exs.skipEq (by assumption) rfl rfl (by decide +kernel) ?_
  refine Exs.skipEq (by assumption) rfl rfl (by decide +kernel) ?_
  refine Exs.skipIn (by assumption) rfl rfl (by decide +kernel) (by decide +kernel) (by decide +kernel) ?_
  refine Exs.skipEq (by assumption) rfl rfl (by decide +kernel) ?_
  refine Exs.skipIn (by assumption) rfl rfl (by decide +kernel) (by decide +kernel) (by decide +kernel) ?_
  refine Exs.skipEq (by assumption) rfl rfl (by decide +kernel) ?_
  refine Exs.skipEq (by assumption) rfl rfl (by decide +kernel) ?_
  refine Exs.takeIn (by assumption) rfl rfl (by decide +kernel) (by decide +kernel) (by decide +kernel) (Exs.appCons ?_)
  refine Exs.assign (d := tupD y) ?hoth (by assumption) rfl ?_
  case hoth =>
    refine Ev.idx1 (s := .tup [tupD x, tupD y]) (Ev.idx0 (s := .lst (.tup [tupD x, tupD y] :: rest)) ?_ rfl) rfl
    exact Ev.loc (by assumption) rfl rfl
  refine Exs.retd (Ev.if_ (p := false) (Tr.castP (Tr.cmp (Ev.loc (by assumption) rfl rfl) Ev.str cmp_eqS) (by decide +kernel)) (fun h => ?_) (fun h => ?_)) rfl
  · cases h
  · refine Ev.tup (Evs.cons (d := tupD x) ?_ (Evs.cons (d := tupD (-y.1, y.2)) (Ev.tup (Evs.cons (d := .int (-y.1)) (Ev.neg (Ev.idx0 (s := tupD y) ?_ rfl)) (Evs.cons (d := .int y.2) (Ev.idx1 (s := tupD y) ?_ rfl) Evs.nil)) (by rw [sizeLine_eq]; simp)) Evs.nil)) (by rw [sizeLine_eq]; simp)
    all_goals exact Ev.loc (by assumption) rfl rfl
theorem due_MAX (kind most : Int) (v : D) (rest : List D) (d : D) (h3 : kind ≠ 3) (h5 : kind ≠ 5) (hd : d.deep = true) (con1 : CallOk 3 (.ref 516) [.str "MAX", .lst (v :: rest), .int kind] (some d)) : CallOk 5 (.ref 521) [.str "MAX", .int kind, .lst (v :: rest), .int most] (some d) := by
  refine CallOk.cell 84 ["name", "kind", "values", "most"] g_law_due rfl (by kbt_split) (by decide +kernel) cells_some rfl rfl rfl (fun d h => by cases h; exact hd) (fun c hn hs hcm => ?_)
  refine Exs.assign (d := .int (dg kind)) (ev_digits (Ev.cel (by assumption) rfl rfl)) (by assumption) rfl ?_
  refine Exs.assign (d := v) ?hfirst (by assumption) rfl ?_
  case hfirst =>
    refine ev_first (vs := (v :: rest)) (kind := kind) ?_ ?_ ?_ (.inr ⟨h3, rfl⟩)
    · exact Ev.cel (by assumption) rfl rfl
    · exact Ev.loc (by assumption) rfl rfl
    · exact Ev.loc (by assumption) rfl rfl
  refine Exs.if_ (p := false) (Tr.castP (Tr.cmp (Ev.cel (by assumption) rfl rfl) Ev.int cmp_eq) (ne_beq h5)) (fun h => by cases h) (fun _ => Exs.appNil ?_)
  refine Exs.skipEq (by assumption) rfl rfl (by decide +kernel) ?_
  refine Exs.skipEq (by assumption) rfl rfl (by decide +kernel) ?_
  refine Exs.skipIn (by assumption) rfl rfl (by decide +kernel) (by decide +kernel) (by decide +kernel) ?_
  refine Exs.skipEq (by assumption) rfl rfl (by decide +kernel) ?_
  refine Exs.skipIn (by assumption) rfl rfl (by decide +kernel) (by decide +kernel) (by decide +kernel) ?_
  refine Exs.skipEq (by assumption) rfl rfl (by decide +kernel) ?_
  refine Exs.skipEq (by assumption) rfl rfl (by decide +kernel) ?_
  refine Exs.skipIn (by assumption) rfl rfl (by decide +kernel) (by decide +kernel) (by decide +kernel) ?_
  refine Exs.takeIn (by assumption) rfl rfl (by decide +kernel) (by decide +kernel) (by decide +kernel) (Exs.appCons ?_)
  refine Exs.retd (Ev.call (e_law_extreme (by assumption) rfl) (Evs.cons (Ev.loc (by assumption) rfl rfl) (Evs.cons (Ev.loc (by assumption) rfl rfl) (Evs.cons (Ev.cel (by assumption) rfl rfl) Evs.nil))) con1 (by (first | lia | omega))) rfl
theorem due_MIN (kind most : Int) (v : D) (rest : List D) (d : D) (h3 : kind ≠ 3) (h5 : kind ≠ 5) (hd : d.deep = true) (con1 : CallOk 3 (.ref 516) [.str "MIN", .lst (v :: rest), .int kind] (some d)) : CallOk 5 (.ref 521) [.str "MIN", .int kind, .lst (v :: rest), .int most] (some d) := by
  refine CallOk.cell 84 ["name", "kind", "values", "most"] g_law_due rfl (by kbt_split) (by decide +kernel) cells_some rfl rfl rfl (fun d h => by cases h; exact hd) (fun c hn hs hcm => ?_)
  refine Exs.assign (d := .int (dg kind)) (ev_digits (Ev.cel (by assumption) rfl rfl)) (by assumption) rfl ?_
  refine Exs.assign (d := v) ?hfirst (by assumption) rfl ?_
  case hfirst =>
    refine ev_first (vs := (v :: rest)) (kind := kind) ?_ ?_ ?_ (.inr ⟨h3, rfl⟩)
    · exact Ev.cel (by assumption) rfl rfl
    · exact Ev.loc (by assumption) rfl rfl
    · exact Ev.loc (by assumption) rfl rfl
  refine Exs.if_ (p := false) (Tr.castP (Tr.cmp (Ev.cel (by assumption) rfl rfl) Ev.int cmp_eq) (ne_beq h5)) (fun h => by cases h) (fun _ => Exs.appNil ?_)
  refine Exs.skipEq (by assumption) rfl rfl (by decide +kernel) ?_
  refine Exs.skipEq (by assumption) rfl rfl (by decide +kernel) ?_
  refine Exs.skipIn (by assumption) rfl rfl (by decide +kernel) (by decide +kernel) (by decide +kernel) ?_
  refine Exs.skipEq (by assumption) rfl rfl (by decide +kernel) ?_
  refine Exs.skipIn (by assumption) rfl rfl (by decide +kernel) (by decide +kernel) (by decide +kernel) ?_
  refine Exs.skipEq (by assumption) rfl rfl (by decide +kernel) ?_
  refine Exs.skipEq (by assumption) rfl rfl (by decide +kernel) ?_
  refine Exs.skipIn (by assumption) rfl rfl (by decide +kernel) (by decide +kernel) (by decide +kernel) ?_
  refine Exs.takeIn (by assumption) rfl rfl (by decide +kernel) (by decide +kernel) (by decide +kernel) (Exs.appCons ?_)
  refine Exs.retd (Ev.call (e_law_extreme (by assumption) rfl) (Evs.cons (Ev.loc (by assumption) rfl rfl) (Evs.cons (Ev.loc (by assumption) rfl rfl) (Evs.cons (Ev.cel (by assumption) rfl rfl) Evs.nil))) con1 (by (first | lia | omega))) rfl
theorem due_AMAX0 (kind most m : Int) (v : D) (rest : List D) (h3 : kind ≠ 3) (h5 : kind ≠ 5) (hm : m.natAbs < 10 ^ 300) (con1 : CallOk 3 (.ref 516) [.str "AMAX0", .lst (v :: rest), .int 0] (some (.int m))) : CallOk 5 (.ref 521) [.str "AMAX0", .int kind, .lst (v :: rest), .int most] (some (tupD (told (m * 10 ^ 40) 4))) := by
  have con2 := law_told_ok (m * 10 ^ 40) 4 (by decide) (by decide) (cd_le_of (by rw [natAbs_mulpow]; exact Nat.lt_of_lt_of_le (Nat.mul_lt_mul_of_pos_right hm (by decide)) (by rw [← Nat.pow_add]; exact Nat.pow_le_pow_right (by decide) (by decide))))
  refine CallOk.cell 84 ["name", "kind", "values", "most"] g_law_due rfl (by kbt_split) (by decide +kernel) cells_some rfl rfl rfl (fun d h => by cases h; rfl) (fun c hn hs hcm => ?_)
  refine Exs.assign (d := .int (dg kind)) (ev_digits (Ev.cel (by assumption) rfl rfl)) (by assumption) rfl ?_
  refine Exs.assign (d := v) ?hfirst (by assumption) rfl ?_
  case hfirst =>
    refine ev_first (vs := (v :: rest)) (kind := kind) ?_ ?_ ?_ (.inr ⟨h3, rfl⟩)
    · exact Ev.cel (by assumption) rfl rfl
    · exact Ev.loc (by assumption) rfl rfl
    · exact Ev.loc (by assumption) rfl rfl
  refine Exs.if_ (p := false) (Tr.castP (Tr.cmp (Ev.cel (by assumption) rfl rfl) Ev.int cmp_eq) (ne_beq h5)) (fun h => by cases h) (fun _ => Exs.appNil ?_)
  refine Exs.skipEq (by assumption) rfl rfl (by decide +kernel) ?_
  refine Exs.skipEq (by assumption) rfl rfl (by decide +kernel) ?_
  refine Exs.skipIn (by assumption) rfl rfl (by decide +kernel) (by decide +kernel) (by decide +kernel) ?_
  refine Exs.skipEq (by assumption) rfl rfl (by decide +kernel) ?_
  refine Exs.skipIn (by assumption) rfl rfl (by decide +kernel) (by decide +kernel) (by decide +kernel) ?_
  refine Exs.skipEq (by assumption) rfl rfl (by decide +kernel) ?_
  refine Exs.skipEq (by assumption) rfl rfl (by decide +kernel) ?_
  refine Exs.skipIn (by assumption) rfl rfl (by decide +kernel) (by decide +kernel) (by decide +kernel) ?_
  refine Exs.skipIn (by assumption) rfl rfl (by decide +kernel) (by decide +kernel) (by decide +kernel) ?_
  refine Exs.takeIn (by assumption) rfl rfl (by decide +kernel) (by decide +kernel) (by decide +kernel) (Exs.appCons ?_)
  refine Exs.retd (Ev.call (e_law_told (by assumption) rfl) (Evs.cons (d := .int (m * 10 ^ 40)) (Ev.bin (Ev.call (e_law_extreme (by assumption) rfl) (Evs.cons (Ev.loc (by assumption) rfl rfl) (Evs.cons (Ev.loc (by assumption) rfl rfl) (Evs.cons Ev.int Evs.nil))) con1 (by (first | lia | omega))) (Ev.call (e_law_one (by assumption) rfl) Evs.nil law_one_ok (by (first | lia | omega))) (bin_mul (mulOk40 (Nat.lt_of_lt_of_le hm (Nat.pow_le_pow_right (by decide) (by decide)))))) (Evs.cons Ev.int Evs.nil)) con2 (by (first | lia | omega))) rfl
theorem due_AMIN0 (kind most m : Int) (v : D) (rest : List D) (h3 : kind ≠ 3) (h5 : kind ≠ 5) (hm : m.natAbs < 10 ^ 300) (con1 : CallOk 3 (.ref 516) [.str "AMIN0", .lst (v :: rest), .int 0] (some (.int m))) : CallOk 5 (.ref 521) [.str "AMIN0", .int kind, .lst (v :: rest), .int most] (some (tupD (told (m * 10 ^ 40) 4))) := by
  have con2 := law_told_ok (m * 10 ^ 40) 4 (by decide) (by decide) (cd_le_of (by rw [natAbs_mulpow]; exact Nat.lt_of_lt_of_le (Nat.mul_lt_mul_of_pos_right hm (by decide)) (by rw [← Nat.pow_add]; exact Nat.pow_le_pow_right (by decide) (by decide))))
  refine CallOk.cell 84 ["name", "kind", "values", "most"] g_law_due rfl (by kbt_split) (by decide +kernel) cells_some rfl rfl rfl (fun d h => by cases h; rfl) (fun c hn hs hcm => ?_)
  refine Exs.assign (d := .int (dg kind)) (ev_digits (Ev.cel (by assumption) rfl rfl)) (by assumption) rfl ?_
  refine Exs.assign (d := v) ?hfirst (by assumption) rfl ?_
  case hfirst =>
    refine ev_first (vs := (v :: rest)) (kind := kind) ?_ ?_ ?_ (.inr ⟨h3, rfl⟩)
    · exact Ev.cel (by assumption) rfl rfl
    · exact Ev.loc (by assumption) rfl rfl
    · exact Ev.loc (by assumption) rfl rfl
  refine Exs.if_ (p := false) (Tr.castP (Tr.cmp (Ev.cel (by assumption) rfl rfl) Ev.int cmp_eq) (ne_beq h5)) (fun h => by cases h) (fun _ => Exs.appNil ?_)
  refine Exs.skipEq (by assumption) rfl rfl (by decide +kernel) ?_
  refine Exs.skipEq (by assumption) rfl rfl (by decide +kernel) ?_
  refine Exs.skipIn (by assumption) rfl rfl (by decide +kernel) (by decide +kernel) (by decide +kernel) ?_
  refine Exs.skipEq (by assumption) rfl rfl (by decide +kernel) ?_
  refine Exs.skipIn (by assumption) rfl rfl (by decide +kernel) (by decide +kernel) (by decide +kernel) ?_
  refine Exs.skipEq (by assumption) rfl rfl (by decide +kernel) ?_
  refine Exs.skipEq (by assumption) rfl rfl (by decide +kernel) ?_
  refine Exs.skipIn (by assumption) rfl rfl (by decide +kernel) (by decide +kernel) (by decide +kernel) ?_
  refine Exs.skipIn (by assumption) rfl rfl (by decide +kernel) (by decide +kernel) (by decide +kernel) ?_
  refine Exs.takeIn (by assumption) rfl rfl (by decide +kernel) (by decide +kernel) (by decide +kernel) (Exs.appCons ?_)
  refine Exs.retd (Ev.call (e_law_told (by assumption) rfl) (Evs.cons (d := .int (m * 10 ^ 40)) (Ev.bin (Ev.call (e_law_extreme (by assumption) rfl) (Evs.cons (Ev.loc (by assumption) rfl rfl) (Evs.cons (Ev.loc (by assumption) rfl rfl) (Evs.cons Ev.int Evs.nil))) con1 (by (first | lia | omega))) (Ev.call (e_law_one (by assumption) rfl) Evs.nil law_one_ok (by (first | lia | omega))) (bin_mul (mulOk40 (Nat.lt_of_lt_of_le hm (Nat.pow_le_pow_right (by decide) (by decide)))))) (Evs.cons Ev.int Evs.nil)) con2 (by (first | lia | omega))) rfl
theorem due_MAX1 (kind most : Int) (x : Int × Int) (v : D) (rest : List D) (h3 : kind ≠ 3) (h5 : kind ≠ 5) (hx : Md x) (hx2 : -40 ≤ x.2) (con1 : CallOk 3 (.ref 516) [.str "MAX1", .lst (v :: rest), .int 1] (some (tupD x))) : CallOk 5 (.ref 521) [.str "MAX1", .int kind, .lst (v :: rest), .int most] (some (orNone (lint (wholeI x false) most))) := by
  have con2 := law_int_ok (wholeI x false) most
  have con3 := law_whole_ok x false hx hx2
  refine CallOk.cell 84 ["name", "kind", "values", "most"] g_law_due rfl (by kbt_split) (by decide +kernel) cells_some rfl rfl rfl (fun d h => by cases h; exact orNone_deep _) (fun c hn hs hcm => ?_)
  refine Exs.assign (d := .int (dg kind)) (ev_digits (Ev.cel (by assumption) rfl rfl)) (by assumption) rfl ?_
  refine Exs.assign (d := v) ?hfirst (by assumption) rfl ?_
  case hfirst =>
    refine ev_first (vs := (v :: rest)) (kind := kind) ?_ ?_ ?_ (.inr ⟨h3, rfl⟩)
    · exact Ev.cel (by assumption) rfl rfl
    · exact Ev.loc (by assumption) rfl rfl
    · exact Ev.loc (by assumption) rfl rfl
  refine Exs.if_ (p := false) (Tr.castP (Tr.cmp (Ev.cel (by assumption) rfl rfl) Ev.int cmp_eq) (ne_beq h5)) (fun h => by cases h) (fun _ => Exs.appNil ?_)
  refine Exs.skipEq (by assumption) rfl rfl (by decide +kernel) ?_
  refine Exs.skipEq (by assumption) rfl rfl (by decide +kernel) ?_
  refine Exs.skipIn (by assumption) rfl rfl (by decide +kernel) (by decide +kernel) (by decide +kernel) ?_
  refine Exs.skipEq (by assumption) rfl rfl (by decide +kernel) ?_
  refine Exs.skipIn (by assumption) rfl rfl (by decide +kernel) (by decide +kernel) (by decide +kernel) ?_
  refine Exs.skipEq (by assumption) rfl rfl (by decide +kernel) ?_
  refine Exs.skipEq (by assumption) rfl rfl (by decide +kernel) ?_
  refine Exs.skipIn (by assumption) rfl rfl (by decide +kernel) (by decide +kernel) (by decide +kernel) ?_
  refine Exs.skipIn (by assumption) rfl rfl (by decide +kernel) (by decide +kernel) (by decide +kernel) ?_
  refine Exs.skipIn (by assumption) rfl rfl (by decide +kernel) (by decide +kernel) (by decide +kernel) ?_
  refine Exs.takeIn (by assumption) rfl rfl (by decide +kernel) (by decide +kernel) (by decide +kernel) (Exs.appCons ?_)
  refine Exs.retd (Ev.call (e_law_int (by assumption) rfl) (Evs.cons (d := .int (wholeI x false)) (Ev.call (e_law_whole (by assumption) rfl) (Evs.cons (Ev.call (e_law_extreme (by assumption) rfl) (Evs.cons (Ev.loc (by assumption) rfl rfl) (Evs.cons (Ev.loc (by assumption) rfl rfl) (Evs.cons Ev.int Evs.nil))) con1 (by (first | lia | omega))) (Evs.cons Ev.bool Evs.nil)) con3 (by (first | lia | omega))) (Evs.cons (Ev.loc (by assumption) rfl rfl) Evs.nil)) con2 (by (first | lia | omega))) rfl
theorem due_MIN1 (kind most : Int) (x : Int × Int) (v : D) (rest : List D) (h3 : kind ≠ 3) (h5 : kind ≠ 5) (hx : Md x) (hx2 : -40 ≤ x.2) (con1 : CallOk 3 (.ref 516) [.str "MIN1", .lst (v :: rest), .int 1] (some (tupD x))) : CallOk 5 (.ref 521) [.str "MIN1", .int kind, .lst (v :: rest), .int most] (some (orNone (lint (wholeI x false) most))) := by
  have con2 := law_int_ok (wholeI x false) most
  have con3 := law_whole_ok x false hx hx2
  refine CallOk.cell 84 ["name", "kind", "values", "most"] g_law_due rfl (by kbt_split) (by decide +kernel) cells_some rfl rfl rfl (fun d h => by cases h; exact orNone_deep _) (fun c hn hs hcm => ?_)
  refine Exs.assign (d := .int (dg kind)) (ev_digits (Ev.cel (by assumption) rfl rfl)) (by assumption) rfl ?_
  refine Exs.assign (d := v) ?hfirst (by assumption) rfl ?_
  case hfirst =>
    refine ev_first (vs := (v :: rest)) (kind := kind) ?_ ?_ ?_ (.inr ⟨h3, rfl⟩)
    · exact Ev.cel (by assumption) rfl rfl
    · exact Ev.loc (by assumption) rfl rfl
    · exact Ev.loc (by assumption) rfl rfl
  refine Exs.if_ (p := false) (Tr.castP (Tr.cmp (Ev.cel (by assumption) rfl rfl) Ev.int cmp_eq) (ne_beq h5)) (fun h => by cases h) (fun _ => Exs.appNil ?_)
  refine Exs.skipEq (by assumption) rfl rfl (by decide +kernel) ?_
  refine Exs.skipEq (by assumption) rfl rfl (by decide +kernel) ?_
  refine Exs.skipIn (by assumption) rfl rfl (by decide +kernel) (by decide +kernel) (by decide +kernel) ?_
  refine Exs.skipEq (by assumption) rfl rfl (by decide +kernel) ?_
  refine Exs.skipIn (by assumption) rfl rfl (by decide +kernel) (by decide +kernel) (by decide +kernel) ?_
  refine Exs.skipEq (by assumption) rfl rfl (by decide +kernel) ?_
  refine Exs.skipEq (by assumption) rfl rfl (by decide +kernel) ?_
  refine Exs.skipIn (by assumption) rfl rfl (by decide +kernel) (by decide +kernel) (by decide +kernel) ?_
  refine Exs.skipIn (by assumption) rfl rfl (by decide +kernel) (by decide +kernel) (by decide +kernel) ?_
  refine Exs.skipIn (by assumption) rfl rfl (by decide +kernel) (by decide +kernel) (by decide +kernel) ?_
  refine Exs.takeIn (by assumption) rfl rfl (by decide +kernel) (by decide +kernel) (by decide +kernel) (Exs.appCons ?_)
  refine Exs.retd (Ev.call (e_law_int (by assumption) rfl) (Evs.cons (d := .int (wholeI x false)) (Ev.call (e_law_whole (by assumption) rfl) (Evs.cons (Ev.call (e_law_extreme (by assumption) rfl) (Evs.cons (Ev.loc (by assumption) rfl rfl) (Evs.cons (Ev.loc (by assumption) rfl rfl) (Evs.cons Ev.int Evs.nil))) con1 (by (first | lia | omega))) (Evs.cons Ev.bool Evs.nil)) con3 (by (first | lia | omega))) (Evs.cons (Ev.loc (by assumption) rfl rfl) Evs.nil)) con2 (by (first | lia | omega))) rfl
noncomputable
def chrD (n : Int) : D := if decide (0 ≤ n) && decide (n < 256) then .str ⟨#[n.toNat]⟩ else .none
theorem due_CHAR (kind n most : Int) (rest : List D) (h3 : kind ≠ 3) (h5 : kind ≠ 5) : CallOk 5 (.ref 521) [.str "CHAR", .int kind, .lst (.int n :: rest), .int most] (some (chrD n)) := by
  refine CallOk.cell 84 ["name", "kind", "values", "most"] g_law_due rfl (by kbt_split) (by decide +kernel) cells_some rfl rfl rfl (fun d h => by cases h; unfold chrD; split <;> rfl) (fun c hn hs hcm => ?_)
  refine Exs.assign (d := .int (dg kind)) (ev_digits (Ev.cel (by assumption) rfl rfl)) (by assumption) rfl ?_
  refine Exs.assign (d := (.int n)) ?hfirst (by assumption) rfl ?_
  case hfirst =>
    refine ev_first (vs := (.int n :: rest)) (kind := kind) ?_ ?_ ?_ (.inr ⟨h3, rfl⟩)
    · exact Ev.cel (by assumption) rfl rfl
    · exact Ev.loc (by assumption) rfl rfl
    · exact Ev.loc (by assumption) rfl rfl
  refine Exs.if_ (p := false) (Tr.castP (Tr.cmp (Ev.cel (by assumption) rfl rfl) Ev.int cmp_eq) (ne_beq h5)) (fun h => by cases h) (fun _ => Exs.appNil ?_)
  refine Exs.takeEq (by assumption) rfl rfl (by decide +kernel) (Exs.appCons ?_)
  have a0 : ∀ {ρ : List (Str × D)} {p q r : Pos} {k : Nat}, ρ.lookup (Str.ofString "values") = some (.lst (.int n :: rest)) → Ev c ρ (.Subscript (.Name "values" p) (.Constant (.int 0) k q) r) (some (.int n)) := fun h => Ev.idx0 (s := .lst (.int n :: rest)) (Ev.loc (by assumption) rfl h) rfl
  refine Exs.retd (Ev.if_ (p := decide (0 ≤ n) && decide (n < 256)) (Tr.cmp2 (a := .int 0) (b := .int n) (e := .int 256) Ev.int (a0 rfl) Ev.int cmp_le cmp_lt) (fun h => ?_) (fun h => ?_)) rfl
  · have h' := h
    simp only [Bool.and_eq_true, decide_eq_true_eq] at h'
    refine Ev.cast (Ev.call (e_chr (by assumption) rfl) (Evs.cons (a0 rfl) Evs.nil) (chr_ok h'.1 (by (first | (clear h a0 hcm hs hn h5 h3; lia) | lia | omega))) (Nat.zero_le _)) ?_
    unfold chrD; rw [h]; rfl
  · refine Ev.cast Ev.none ?_
    unfold chrD; rw [h]; rfl
theorem due_text_ok (nm : Str) (most : Int) (x : Str) (rest : List D) (d : D) (hd : d.deep = true) (con1 : CallOk 3 (.ref 504) [.str nm, .lst (.str x :: rest)] (some d)) : CallOk 5 (.ref 521) [.str nm, .int 5, .lst (.str x :: rest), .int most] (some d) := by
  refine CallOk.cell 84 ["name", "kind", "values", "most"] g_law_due rfl (by kbt_split) (by decide +kernel) cells_some rfl rfl rfl (fun d h => by cases h; exact hd) (fun c hn hs hcm => ?_)
  refine Exs.assign (d := .int (dg 5)) (ev_digits (Ev.cel (by assumption) rfl rfl)) (by assumption) rfl ?_
  refine Exs.assign (d := .str x) ?hfirst (by assumption) rfl ?_
  case hfirst =>
    refine ev_first (vs := .str x :: rest) (kind := 5) ?_ ?_ ?_ (.inr ⟨by decide, rfl⟩)
    · exact Ev.cel (by assumption) rfl rfl
    · exact Ev.loc (by assumption) rfl rfl
    · exact Ev.loc (by assumption) rfl rfl
  refine Exs.if_ (p := true) (Tr.castP (Tr.cmp (Ev.cel (by assumption) rfl rfl) Ev.int cmp_eq) rfl) (fun _ => Exs.appCons ?_) (fun h => by cases h)
  exact Exs.retd (Ev.call (e_law_text_due (by assumption) rfl) (Evs.cons (Ev.loc (by assumption) rfl rfl) (Evs.cons (Ev.loc (by assumption) rfl rfl) Evs.nil)) con1 (by (first | lia | omega))) rfl
noncomputable
def plD (kind : Int) (d : D) : D := if kind == 0 then d else match d with
  | .tup [.int a, .int b] => .int (FX (a, b))
  | _ => .none
noncomputable
def Plain (kind : Int) (d : D) : Prop := (kind = 0 ∧ ∃ n, d = .int n) ∨ (kind ≠ 0 ∧ ∃ x, d = tupD x ∧ Md x ∧ -40 ≤ x.2)
theorem plD_int {kind : Int} {d : D} (h : Plain kind d) : ∃ n, plD kind d = .int n := by
  rcases h with ⟨rfl, n, rfl⟩ | ⟨h0, x, rfl, _⟩
  · exact ⟨n, rfl⟩
  · exact ⟨FX x, by unfold plD; rw [ne_beq h0]; rfl⟩
theorem dueI_deep (kind : Int) (d : Nat) (most : Int) (o : Option Int) : (dueI kind d most o).deep = true := by
  unfold dueI; split <;> (try split) <;> (try exact orNone_deep _) <;> rfl
theorem due_ABS (kind most x y : Int) (v : D) (rest : List D) (h3 : kind ≠ 3) (h5 : kind ≠ 5) (hrest : rest.length ≤ 10) (hp : ∀ d ∈ v :: rest, Plain kind d) (p0 : plD kind v = .int x) (p1 : ((v :: rest ++ [v]).map (plD kind))[1]? = some (.int y)) (hf : ∀ f, numI "ABS" x y = some f → cd f.natAbs ≤ 400) : CallOk 5 (.ref 521) [.str "ABS", .int kind, .lst (v :: rest), .int most] (some (dueI kind (dg kind) most (numI "ABS" x y))) := by
  have con1 := law_number_due_ok "ABS" kind (dg kind) x y most (dg_pos kind) (by unfold dg; split <;> decide) hf
  have hv : Plain kind v := hp v (.head _)
  have hmem : ∀ d ∈ v :: rest ++ [v], Plain kind d := fun d hd => by
    rcases List.mem_append.mp hd with hd | hd
    · exact hp d hd
    · rw [List.mem_singleton.mp hd]; exact hv
  refine CallOk.cell 84 ["name", "kind", "values", "most"] g_law_due rfl (by kbt_split) (by decide +kernel) cells_some rfl rfl rfl (fun d h => by cases h; exact dueI_deep _ _ _ _) (fun c hn hs hcm => ?_)
  refine Exs.assign (d := .int (dg kind)) (ev_digits (Ev.cel (by assumption) rfl rfl)) (by assumption) rfl ?_
  refine Exs.assign (d := v) ?hfirst (by assumption) rfl ?_
  case hfirst =>
    refine ev_first (vs := (v :: rest)) (kind := kind) ?_ ?_ ?_ (.inr ⟨h3, rfl⟩)
    · exact Ev.cel (by assumption) rfl rfl
    · exact Ev.loc (by assumption) rfl rfl
    · exact Ev.loc (by assumption) rfl rfl
  refine Exs.if_ (p := false) (Tr.castP (Tr.cmp (Ev.cel (by assumption) rfl rfl) Ev.int cmp_eq) (ne_beq h5)) (fun h => by cases h) (fun _ => Exs.appNil ?_)
  refine Exs.skipEq (by assumption) rfl rfl (by decide +kernel) ?_
  refine Exs.skipEq (by assumption) rfl rfl (by decide +kernel) ?_
  refine Exs.skipIn (by assumption) rfl rfl (by decide +kernel) (by decide +kernel) (by decide +kernel) ?_
  refine Exs.skipEq (by assumption) rfl rfl (by decide +kernel) ?_
  refine Exs.skipIn (by assumption) rfl rfl (by decide +kernel) (by decide +kernel) (by decide +kernel) ?_
  refine Exs.skipEq (by assumption) rfl rfl (by decide +kernel) ?_
  refine Exs.skipEq (by assumption) rfl rfl (by decide +kernel) ?_
  refine Exs.skipIn (by assumption) rfl rfl (by decide +kernel) (by decide +kernel) (by decide +kernel) ?_
  refine Exs.skipIn (by assumption) rfl rfl (by decide +kernel) (by decide +kernel) (by decide +kernel) ?_
  refine Exs.skipIn (by assumption) rfl rfl (by decide +kernel) (by decide +kernel) (by decide +kernel) ?_
  refine Exs.skipIn (by assumption) rfl rfl (by decide +kernel) (by decide +kernel) (by decide +kernel) ?_
  refine Exs.assignComp (tst := fun _ => true) (f := plD kind) (src := v :: rest ++ [v]) (CompOk.mk1 (n := "kind") (dn := .int kind) (by assumption) (IterEv.lst ?hsrc) (by simp; lia) rfl rfl rfl rfl rfl rfl (fun env => by unfold closureFor; simp [List.forIn_cons, List.forIn_nil]) rfl rfl rfl (by decide +kernel) (fun c' h1 h2 d hd => rfl) (fun c' h1 h2 d hd _ => ?helt) (fun d hd _ => ?hdeep)) (by assumption) rfl ?hsw ?_
  case hsrc =>
    refine Ev.bin (a := .lst (v :: rest)) (b := .lst [v]) ?_ (Ev.lst (Evs.cons (d := v) (Ev.idx0 (s := .lst (v :: rest)) ?_ rfl) Evs.nil) (by rw [sizeLine_eq]; simp)) (bin_addL (by rw [sizeLine_eq]; simp; lia))
    all_goals exact Ev.loc (by assumption) rfl rfl
  case helt =>
    obtain ⟨n, hn'⟩ := plD_int (hmem d hd)
    rw [hn']
    refine EvX.of (d := .int n) (Ev.if_ (p := kind == 0) (Tr.cmp (Ev.cel h2 rfl rfl) Ev.int cmp_eq) (fun hif => ?_) (fun hif => ?_)) rfl
    · rcases hmem d hd with ⟨h0, m, rfl⟩ | ⟨h0, _⟩
      · refine Ev.cast (Ev.loc h2 rfl rfl) ?_
        rw [h0] at hn'; exact hn'
      · rw [ne_beq h0] at hif; cases hif
    · rcases hmem d hd with ⟨h0, _⟩ | ⟨h0, x', rfl, hx1, hx2⟩
      · rw [h0] at hif; cases hif
      · refine Ev.cast (Ev.call (e_law_fixed h2 rfl) (Evs.cons (Ev.loc h2 rfl rfl) Evs.nil) (law_fixed_ok x' hx1 hx2) (by (first | lia | omega))) ?_
        rw [← hn']; unfold plD; rw [hif]; rfl
  case hdeep =>
    obtain ⟨n, hn'⟩ := plD_int (hmem d hd)
    rw [hn']; rfl
  case hsw =>
    intro env h1 h2
    unfold swapsWith
    simp [h1, h2]
    exact congrArg pure (by decide +kernel)
  rw [List.filter_eq_self.mpr (fun _ _ => rfl)]
  refine Exs.retd (Ev.call (e_law_number_due (by assumption) rfl) (Evs.cons (Ev.loc (by assumption) rfl rfl) (Evs.cons (Ev.cel (by assumption) rfl rfl) (Evs.cons (Ev.loc (by assumption) rfl rfl) (Evs.cons (d := .int x) (Ev.idx0 (s := .lst ((v :: rest ++ [v]).map (plD kind))) (Ev.loc (by assumption) rfl rfl) (congrArg some p0)) (Evs.cons (d := .int y) (Ev.idx1 (s := .lst ((v :: rest ++ [v]).map (plD kind))) (Ev.loc (by assumption) rfl rfl) p1) (Evs.cons (Ev.loc (by assumption) rfl rfl) Evs.nil)))))) con1 (by (first | lia | omega))) rfl
theorem due_MOD (kind most x y : Int) (v : D) (rest : List D) (h3 : kind ≠ 3) (h5 : kind ≠ 5) (hrest : rest.length ≤ 10) (hp : ∀ d ∈ v :: rest, Plain kind d) (p0 : plD kind v = .int x) (p1 : ((v :: rest ++ [v]).map (plD kind))[1]? = some (.int y)) (hf : ∀ f, numI "MOD" x y = some f → cd f.natAbs ≤ 400) : CallOk 5 (.ref 521) [.str "MOD", .int kind, .lst (v :: rest), .int most] (some (dueI kind (dg kind) most (numI "MOD" x y))) := by
  have con1 := law_number_due_ok "MOD" kind (dg kind) x y most (dg_pos kind) (by unfold dg; split <;> decide) hf
  have hv : Plain kind v := hp v (.head _)
  have hmem : ∀ d ∈ v :: rest ++ [v], Plain kind d := fun d hd => by
    rcases List.mem_append.mp hd with hd | hd
    · exact hp d hd
    · rw [List.mem_singleton.mp hd]; exact hv
  refine CallOk.cell 84 ["name", "kind", "values", "most"] g_law_due rfl (by kbt_split) (by decide +kernel) cells_some rfl rfl rfl (fun d h => by cases h; exact dueI_deep _ _ _ _) (fun c hn hs hcm => ?_)
  refine Exs.assign (d := .int (dg kind)) (ev_digits (Ev.cel (by assumption) rfl rfl)) (by assumption) rfl ?_
  refine Exs.assign (d := v) ?hfirst (by assumption) rfl ?_
  case hfirst =>
    refine ev_first (vs := (v :: rest)) (kind := kind) ?_ ?_ ?_ (.inr ⟨h3, rfl⟩)
    · exact Ev.cel (by assumption) rfl rfl
    · exact Ev.loc (by assumption) rfl rfl
    · exact Ev.loc (by assumption) rfl rfl
  refine Exs.if_ (p := false) (Tr.castP (Tr.cmp (Ev.cel (by assumption) rfl rfl) Ev.int cmp_eq) (ne_beq h5)) (fun h => by cases h) (fun _ => Exs.appNil ?_)
  refine Exs.skipEq (by assumption) rfl rfl (by decide +kernel) ?_
  refine Exs.skipEq (by assumption) rfl rfl (by decide +kernel) ?_
  refine Exs.skipIn (by assumption) rfl rfl (by decide +kernel) (by decide +kernel) (by decide +kernel) ?_
  refine Exs.skipEq (by assumption) rfl rfl (by decide +kernel) ?_
  refine Exs.skipIn (by assumption) rfl rfl (by decide +kernel) (by decide +kernel) (by decide +kernel) ?_
  refine Exs.skipEq (by assumption) rfl rfl (by decide +kernel) ?_
  refine Exs.skipEq (by assumption) rfl rfl (by decide +kernel) ?_
  refine Exs.skipIn (by assumption) rfl rfl (by decide +kernel) (by decide +kernel) (by decide +kernel) ?_
  refine Exs.skipIn (by assumption) rfl rfl (by decide +kernel) (by decide +kernel) (by decide +kernel) ?_
  refine Exs.skipIn (by assumption) rfl rfl (by decide +kernel) (by decide +kernel) (by decide +kernel) ?_
  refine Exs.skipIn (by assumption) rfl rfl (by decide +kernel) (by decide +kernel) (by decide +kernel) ?_
  refine Exs.assignComp (tst := fun _ => true) (f := plD kind) (src := v :: rest ++ [v]) (CompOk.mk1 (n := "kind") (dn := .int kind) (by assumption) (IterEv.lst ?hsrc) (by simp; lia) rfl rfl rfl rfl rfl rfl (fun env => by unfold closureFor; simp [List.forIn_cons, List.forIn_nil]) rfl rfl rfl (by decide +kernel) (fun c' h1 h2 d hd => rfl) (fun c' h1 h2 d hd _ => ?helt) (fun d hd _ => ?hdeep)) (by assumption) rfl ?hsw ?_
  case hsrc =>
    refine Ev.bin (a := .lst (v :: rest)) (b := .lst [v]) ?_ (Ev.lst (Evs.cons (d := v) (Ev.idx0 (s := .lst (v :: rest)) ?_ rfl) Evs.nil) (by rw [sizeLine_eq]; simp)) (bin_addL (by rw [sizeLine_eq]; simp; lia))
    all_goals exact Ev.loc (by assumption) rfl rfl
  case helt =>
    obtain ⟨n, hn'⟩ := plD_int (hmem d hd)
    rw [hn']
    refine EvX.of (d := .int n) (Ev.if_ (p := kind == 0) (Tr.cmp (Ev.cel h2 rfl rfl) Ev.int cmp_eq) (fun hif => ?_) (fun hif => ?_)) rfl
    · rcases hmem d hd with ⟨h0, m, rfl⟩ | ⟨h0, _⟩
      · refine Ev.cast (Ev.loc h2 rfl rfl) ?_
        rw [h0] at hn'; exact hn'
      · rw [ne_beq h0] at hif; cases hif
    · rcases hmem d hd with ⟨h0, _⟩ | ⟨h0, x', rfl, hx1, hx2⟩
      · rw [h0] at hif; cases hif
      · refine Ev.cast (Ev.call (e_law_fixed h2 rfl) (Evs.cons (Ev.loc h2 rfl rfl) Evs.nil) (law_fixed_ok x' hx1 hx2) (by (first | lia | omega))) ?_
        rw [← hn']; unfold plD; rw [hif]; rfl
  case hdeep =>
    obtain ⟨n, hn'⟩ := plD_int (hmem d hd)
    rw [hn']; rfl
  case hsw =>
    intro env h1 h2
    unfold swapsWith
    simp [h1, h2]
    exact congrArg pure (by decide +kernel)
  rw [List.filter_eq_self.mpr (fun _ _ => rfl)]
  refine Exs.retd (Ev.call (e_law_number_due (by assumption) rfl) (Evs.cons (Ev.loc (by assumption) rfl rfl) (Evs.cons (Ev.cel (by assumption) rfl rfl) (Evs.cons (Ev.loc (by assumption) rfl rfl) (Evs.cons (d := .int x) (Ev.idx0 (s := .lst ((v :: rest ++ [v]).map (plD kind))) (Ev.loc (by assumption) rfl rfl) (congrArg some p0)) (Evs.cons (d := .int y) (Ev.idx1 (s := .lst ((v :: rest ++ [v]).map (plD kind))) (Ev.loc (by assumption) rfl rfl) p1) (Evs.cons (Ev.loc (by assumption) rfl rfl) Evs.nil)))))) con1 (by (first | lia | omega))) rfl
theorem due_SIGN (kind most x y : Int) (v : D) (rest : List D) (h3 : kind ≠ 3) (h5 : kind ≠ 5) (hrest : rest.length ≤ 10) (hp : ∀ d ∈ v :: rest, Plain kind d) (p0 : plD kind v = .int x) (p1 : ((v :: rest ++ [v]).map (plD kind))[1]? = some (.int y)) (hf : ∀ f, numI "SIGN" x y = some f → cd f.natAbs ≤ 400) : CallOk 5 (.ref 521) [.str "SIGN", .int kind, .lst (v :: rest), .int most] (some (dueI kind (dg kind) most (numI "SIGN" x y))) := by
  have con1 := law_number_due_ok "SIGN" kind (dg kind) x y most (dg_pos kind) (by unfold dg; split <;> decide) hf
  have hv : Plain kind v := hp v (.head _)
  have hmem : ∀ d ∈ v :: rest ++ [v], Plain kind d := fun d hd => by
    rcases List.mem_append.mp hd with hd | hd
    · exact hp d hd
    · rw [List.mem_singleton.mp hd]; exact hv
  refine CallOk.cell 84 ["name", "kind", "values", "most"] g_law_due rfl (by kbt_split) (by decide +kernel) cells_some rfl rfl rfl (fun d h => by cases h; exact dueI_deep _ _ _ _) (fun c hn hs hcm => ?_)
  refine Exs.assign (d := .int (dg kind)) (ev_digits (Ev.cel (by assumption) rfl rfl)) (by assumption) rfl ?_
  refine Exs.assign (d := v) ?hfirst (by assumption) rfl ?_
  case hfirst =>
    refine ev_first (vs := (v :: rest)) (kind := kind) ?_ ?_ ?_ (.inr ⟨h3, rfl⟩)
    · exact Ev.cel (by assumption) rfl rfl
    · exact Ev.loc (by assumption) rfl rfl
    · exact Ev.loc (by assumption) rfl rfl
  refine Exs.if_ (p := false) (Tr.castP (Tr.cmp (Ev.cel (by assumption) rfl rfl) Ev.int cmp_eq) (ne_beq h5)) (fun h => by cases h) (fun _ => Exs.appNil ?_)
  refine Exs.skipEq (by assumption) rfl rfl (by decide +kernel) ?_
  refine Exs.skipEq (by assumption) rfl rfl (by decide +kernel) ?_
  refine Exs.skipIn (by assumption) rfl rfl (by decide +kernel) (by decide +kernel) (by decide +kernel) ?_
  refine Exs.skipEq (by assumption) rfl rfl (by decide +kernel) ?_
  refine Exs.skipIn (by assumption) rfl rfl (by decide +kernel) (by decide +kernel) (by decide +kernel) ?_
  refine Exs.skipEq (by assumption) rfl rfl (by decide +kernel) ?_
  refine Exs.skipEq (by assumption) rfl rfl (by decide +kernel) ?_
  refine Exs.skipIn (by assumption) rfl rfl (by decide +kernel) (by decide +kernel) (by decide +kernel) ?_
  refine Exs.skipIn (by assumption) rfl rfl (by decide +kernel) (by decide +kernel) (by decide +kernel) ?_
  refine Exs.skipIn (by assumption) rfl rfl (by decide +kernel) (by decide +kernel) (by decide +kernel) ?_
  refine Exs.skipIn (by assumption) rfl rfl (by decide +kernel) (by decide +kernel) (by decide +kernel) ?_
  refine Exs.assignComp (tst := fun _ => true) (f := plD kind) (src := v :: rest ++ [v]) (CompOk.mk1 (n := "kind") (dn := .int kind) (by assumption) (IterEv.lst ?hsrc) (by simp; lia) rfl rfl rfl rfl rfl rfl (fun env => by unfold closureFor; simp [List.forIn_cons, List.forIn_nil]) rfl rfl rfl (by decide +kernel) (fun c' h1 h2 d hd => rfl) (fun c' h1 h2 d hd _ => ?helt) (fun d hd _ => ?hdeep)) (by assumption) rfl ?hsw ?_
  case hsrc =>
    refine Ev.bin (a := .lst (v :: rest)) (b := .lst [v]) ?_ (Ev.lst (Evs.cons (d := v) (Ev.idx0 (s := .lst (v :: rest)) ?_ rfl) Evs.nil) (by rw [sizeLine_eq]; simp)) (bin_addL (by rw [sizeLine_eq]; simp; lia))
    all_goals exact Ev.loc (by assumption) rfl rfl
  case helt =>
    obtain ⟨n, hn'⟩ := plD_int (hmem d hd)
    rw [hn']
    refine EvX.of (d := .int n) (Ev.if_ (p := kind == 0) (Tr.cmp (Ev.cel h2 rfl rfl) Ev.int cmp_eq) (fun hif => ?_) (fun hif => ?_)) rfl
    · rcases hmem d hd with ⟨h0, m, rfl⟩ | ⟨h0, _⟩
      · refine Ev.cast (Ev.loc h2 rfl rfl) ?_
        rw [h0] at hn'; exact hn'
      · rw [ne_beq h0] at hif; cases hif
    · rcases hmem d hd with ⟨h0, _⟩ | ⟨h0, x', rfl, hx1, hx2⟩
      · rw [h0] at hif; cases hif
      · refine Ev.cast (Ev.call (e_law_fixed h2 rfl) (Evs.cons (Ev.loc h2 rfl rfl) Evs.nil) (law_fixed_ok x' hx1 hx2) (by (first | lia | omega))) ?_
        rw [← hn']; unfold plD; rw [hif]; rfl
  case hdeep =>
    obtain ⟨n, hn'⟩ := plD_int (hmem d hd)
    rw [hn']; rfl
  case hsw =>
    intro env h1 h2
    unfold swapsWith
    simp [h1, h2]
    exact congrArg pure (by decide +kernel)
  rw [List.filter_eq_self.mpr (fun _ _ => rfl)]
  refine Exs.retd (Ev.call (e_law_number_due (by assumption) rfl) (Evs.cons (Ev.loc (by assumption) rfl rfl) (Evs.cons (Ev.cel (by assumption) rfl rfl) (Evs.cons (Ev.loc (by assumption) rfl rfl) (Evs.cons (d := .int x) (Ev.idx0 (s := .lst ((v :: rest ++ [v]).map (plD kind))) (Ev.loc (by assumption) rfl rfl) (congrArg some p0)) (Evs.cons (d := .int y) (Ev.idx1 (s := .lst ((v :: rest ++ [v]).map (plD kind))) (Ev.loc (by assumption) rfl rfl) p1) (Evs.cons (Ev.loc (by assumption) rfl rfl) Evs.nil)))))) con1 (by (first | lia | omega))) rfl
theorem due_DIM (kind most x y : Int) (v : D) (rest : List D) (h3 : kind ≠ 3) (h5 : kind ≠ 5) (hrest : rest.length ≤ 10) (hp : ∀ d ∈ v :: rest, Plain kind d) (p0 : plD kind v = .int x) (p1 : ((v :: rest ++ [v]).map (plD kind))[1]? = some (.int y)) (hf : ∀ f, numI "DIM" x y = some f → cd f.natAbs ≤ 400) : CallOk 5 (.ref 521) [.str "DIM", .int kind, .lst (v :: rest), .int most] (some (dueI kind (dg kind) most (numI "DIM" x y))) := by
  have con1 := law_number_due_ok "DIM" kind (dg kind) x y most (dg_pos kind) (by unfold dg; split <;> decide) hf
  have hv : Plain kind v := hp v (.head _)
  have hmem : ∀ d ∈ v :: rest ++ [v], Plain kind d := fun d hd => by
    rcases List.mem_append.mp hd with hd | hd
    · exact hp d hd
    · rw [List.mem_singleton.mp hd]; exact hv
  refine CallOk.cell 84 ["name", "kind", "values", "most"] g_law_due rfl (by kbt_split) (by decide +kernel) cells_some rfl rfl rfl (fun d h => by cases h; exact dueI_deep _ _ _ _) (fun c hn hs hcm => ?_)
  refine Exs.assign (d := .int (dg kind)) (ev_digits (Ev.cel (by assumption) rfl rfl)) (by assumption) rfl ?_
  refine Exs.assign (d := v) ?hfirst (by assumption) rfl ?_
  case hfirst =>
    refine ev_first (vs := (v :: rest)) (kind := kind) ?_ ?_ ?_ (.inr ⟨h3, rfl⟩)
    · exact Ev.cel (by assumption) rfl rfl
    · exact Ev.loc (by assumption) rfl rfl
    · exact Ev.loc (by assumption) rfl rfl
  refine Exs.if_ (p := false) (Tr.castP (Tr.cmp (Ev.cel (by assumption) rfl rfl) Ev.int cmp_eq) (ne_beq h5)) (fun h => by cases h) (fun _ => Exs.appNil ?_)
  refine Exs.skipEq (by assumption) rfl rfl (by decide +kernel) ?_
  refine Exs.skipEq (by assumption) rfl rfl (by decide +kernel) ?_
  refine Exs.skipIn (by assumption) rfl rfl (by decide +kernel) (by decide +kernel) (by decide +kernel) ?_
  refine Exs.skipEq (by assumption) rfl rfl (by decide +kernel) ?_
  refine Exs.skipIn (by assumption) rfl rfl (by decide +kernel) (by decide +kernel) (by decide +kernel) ?_
  refine Exs.skipEq (by assumption) rfl rfl (by decide +kernel) ?_
  refine Exs.skipEq (by assumption) rfl rfl (by decide +kernel) ?_
  refine Exs.skipIn (by assumption) rfl rfl (by decide +kernel) (by decide +kernel) (by decide +kernel) ?_
  refine Exs.skipIn (by assumption) rfl rfl (by decide +kernel) (by decide +kernel) (by decide +kernel) ?_
  refine Exs.skipIn (by assumption) rfl rfl (by decide +kernel) (by decide +kernel) (by decide +kernel) ?_
  refine Exs.skipIn (by assumption) rfl rfl (by decide +kernel) (by decide +kernel) (by decide +kernel) ?_
  refine Exs.assignComp (tst := fun _ => true) (f := plD kind) (src := v :: rest ++ [v]) (CompOk.mk1 (n := "kind") (dn := .int kind) (by assumption) (IterEv.lst ?hsrc) (by simp; lia) rfl rfl rfl rfl rfl rfl (fun env => by unfold closureFor; simp [List.forIn_cons, List.forIn_nil]) rfl rfl rfl (by decide +kernel) (fun c' h1 h2 d hd => rfl) (fun c' h1 h2 d hd _ => ?helt) (fun d hd _ => ?hdeep)) (by assumption) rfl ?hsw ?_
  case hsrc =>
    refine Ev.bin (a := .lst (v :: rest)) (b := .lst [v]) ?_ (Ev.lst (Evs.cons (d := v) (Ev.idx0 (s := .lst (v :: rest)) ?_ rfl) Evs.nil) (by rw [sizeLine_eq]; simp)) (bin_addL (by rw [sizeLine_eq]; simp; lia))
    all_goals exact Ev.loc (by assumption) rfl rfl
  case helt =>
    obtain ⟨n, hn'⟩ := plD_int (hmem d hd)
    rw [hn']
    refine EvX.of (d := .int n) (Ev.if_ (p := kind == 0) (Tr.cmp (Ev.cel h2 rfl rfl) Ev.int cmp_eq) (fun hif => ?_) (fun hif => ?_)) rfl
    · rcases hmem d hd with ⟨h0, m, rfl⟩ | ⟨h0, _⟩
      · refine Ev.cast (Ev.loc h2 rfl rfl) ?_
        rw [h0] at hn'; exact hn'
      · rw [ne_beq h0] at hif; cases hif
    · rcases hmem d hd with ⟨h0, _⟩ | ⟨h0, x', rfl, hx1, hx2⟩
      · rw [h0] at hif; cases hif
      · refine Ev.cast (Ev.call (e_law_fixed h2 rfl) (Evs.cons (Ev.loc h2 rfl rfl) Evs.nil) (law_fixed_ok x' hx1 hx2) (by (first | lia | omega))) ?_
        rw [← hn']; unfold plD; rw [hif]; rfl
  case hdeep =>
    obtain ⟨n, hn'⟩ := plD_int (hmem d hd)
    rw [hn']; rfl
  case hsw =>
    intro env h1 h2
    unfold swapsWith
    simp [h1, h2]
    exact congrArg pure (by decide +kernel)
  rw [List.filter_eq_self.mpr (fun _ _ => rfl)]
  refine Exs.retd (Ev.call (e_law_number_due (by assumption) rfl) (Evs.cons (Ev.loc (by assumption) rfl rfl) (Evs.cons (Ev.cel (by assumption) rfl rfl) (Evs.cons (Ev.loc (by assumption) rfl rfl) (Evs.cons (d := .int x) (Ev.idx0 (s := .lst ((v :: rest ++ [v]).map (plD kind))) (Ev.loc (by assumption) rfl rfl) (congrArg some p0)) (Evs.cons (d := .int y) (Ev.idx1 (s := .lst ((v :: rest ++ [v]).map (plD kind))) (Ev.loc (by assumption) rfl rfl) p1) (Evs.cons (Ev.loc (by assumption) rfl rfl) Evs.nil)))))) con1 (by (first | lia | omega))) rfl
end
section
noncomputable
abbrev theT : List (Str × Value) := numT ++ txtT
noncomputable
def placeS (kind : Int) (nm : Str) : Str := if kind == 3 && (valueAt theT (Str.ofString "C" ++ nm)).isSome then Str.ofString "C" ++ nm else nm
theorem value_by_at (w : World) (nm : Str) (kind wd : Int) (ks vs : List D) (f : Value) (k : Nat) (r : Option D) (hnm : nm.length ≤ 100) (hf : valueAt theT (placeS kind nm) = some f) (hC : CallOk k f [.lst (.int kind :: ks), .lst vs, .lim wd] r) (hd : ∀ d, r = some d → d.deep = true) :
    CallAt w (k + 1) (.ref 53) [.tab (TabAt w theT), .str nm, .lst (.int kind :: ks), .lst vs, .lim wd] r := by
  refine CallAt.fn 10 ["table", "name", "kinds", "values", "limits"] g_value_by rfl (by kbt_split) rfl rfl rfl rfl rfl hd (fun c hn hs hw => ?_)
  subst hw
  have cn : ∀ {ρ : List (Str × D)} {p q r : Pos}, ρ.lookup (Str.ofString "name") = some (.str nm) → Ev c ρ (.BinOp (.Constant (.str "C") 0 p) .Add (.Name "name" q) r) (some (.str (Str.ofString "C" ++ nm))) := fun h => Ev.bin Ev.str (Ev.loc (by assumption) rfl h) (bin_addS (by rw [sizeLine_eq]; have : (Str.ofString "C").length = 1 := rfl; lia))
  have fin : ∀ {ρ : List (Str × D)} (p : Str), valueAt theT p = some f → ρ.lookup (Str.ofString "place") = some (.str p) → ρ.lookup (Str.ofString "table") = some (.tab (TabAt c.w theT)) → ρ.lookup (Str.ofString "kinds") = some (.lst (.int kind :: ks)) → ρ.lookup (Str.ofString "values") = some (.lst vs) → ρ.lookup (Str.ofString "limits") = some (.lim wd) →
      ∀ {p1 p2 p3 p4 p5 p6 p7 p8 p9 q1 q2 q3 q4 q5 : Pos} {b : List Stmt}, Exs c ρ (.If (.Compare (.Name "place" p1) [.NotIn] [.Name "table" p2] p3) b [] p4 :: .Return (some (.Call (.Subscript (.Name "table" p5) (.Name "place" p6) p7) [.Name "kinds" q1, .Name "values" q2, .Name "limits" q3] [] p8)) p9 :: []) (outOf r) := by
    intro ρ p hp l1 l2 l3 l4 l5 p1 p2 p3 p4 p5 p6 p7 p8 p9 q1 q2 q3 q4 q5 b
    refine Exs.if_ (p := false) (Tr.castP (Tr.notInTab (Ev.loc (by assumption) rfl l1) (Ev.loc (by assumption) rfl l2)) (by rw [hp]; rfl)) (fun h => by cases h) (fun _ => Exs.appNil ?_)
    refine Exs.ret (Ev.call (Ev.tabAt (Ev.loc (by assumption) rfl l2) (Ev.loc (by assumption) rfl l1) hp) (Evs.cons (Ev.loc (by assumption) rfl l3) (Evs.cons (Ev.loc (by assumption) rfl l4) (Evs.cons (Ev.loc (by assumption) rfl l5) Evs.nil))) hC (by (first | lia | omega)))
  refine Exs.assign (d := .str nm) (Ev.loc (by assumption) rfl rfl) (by assumption) rfl ?_
  refine Exs.if_ (p := (kind == 3 && ((valueAt theT (Str.ofString "C" ++ nm)).isSome && true))) (Tr.and (Tr.cmp (Ev.idx0 (s := .lst (.int kind :: ks)) (Ev.loc (by assumption) rfl rfl) rfl) (e_COMPLEX (by assumption) rfl) cmp_eq) (fun _ => Tr.and (Tr.inTab (cn rfl) (Ev.loc (by assumption) rfl rfl)) (fun _ => Tr.andNil))) (fun hp => ?_) (fun hp => ?_)
  · have hpl : placeS kind nm = Str.ofString "C" ++ nm := by
      unfold placeS; rw [Bool.and_true] at hp; rw [hp]; rfl
    rw [hpl] at hf
    refine Exs.appCons (Exs.assign (d := .str (Str.ofString "C" ++ nm)) (cn rfl) (by assumption) rfl (Exs.appNil ?_))
    exact fin _ hf rfl rfl rfl rfl rfl (q4 := default) (q5 := default)
  · have hpl : placeS kind nm = nm := by
      unfold placeS; rw [Bool.and_true] at hp; rw [hp]; rfl
    rw [hpl] at hf
    refine Exs.appNil ?_
    exact fin _ hf rfl rfl rfl rfl rfl (q4 := default) (q5 := default)
end
end Mine
end
section
open PySem PySem.W PySem.Calls PyProof.Rows
set_option Elab.async false
set_option maxRecDepth 100000
set_option linter.unusedVariables false
set_option exponentiation.threshold 2000
namespace Mine
/-- a real in normal form -/
noncomputable
def Nf (x : Int × Int) : Prop := x = (0, 0) ∨ x.1 % 10 ≠ 0
theorem roundD_nf {x : Int × Int} {d : Nat} (h : Nf x) (hc : cd x.1.natAbs ≤ d) : roundD x.1 x.2 d = x := by
  rw [roundD_small hc]
  rcases h with rfl | h
  · rfl
  · rw [strip_end h]
theorem fit_lint {n w most : Int} (hm : most = 2 ^ (w - 1).toNat) : orElse ((fitI n w).map D.int) = orNone (lint n most) := by
  unfold fitI lint
  rw [hm, Int.one_mul, Bool.or_false]
  generalize (2 : Int) ^ (w - 1).toNat = p
  by_cases h1 : n < -p
  · have : ¬ (-p ≤ n) := by (first | lia | omega)
    simp [h1, this, orElse, orNone]
  · by_cases h2 : n ≥ p
    · have : ¬ (n < p) := by (first | lia | omega)
      simp [h2, this, orElse, orNone]
    · have h3 : -p ≤ n := by (first | lia | omega)
      have h4 : n < p := by (first | lia | omega)
      have h5 : ¬ (p ≤ n) := by omega
      simp [h1, h3, h4, h5, orElse, orNone]
theorem lint_in {n most : Int} (h : -most ≤ n) (h' : n < most) : lint n most = some n := by
  unfold lint; simp [h, h']
theorem fdivN (a b : Nat) : ((a : Int)).fdiv (b : Int) = ((a / b : Nat) : Int) := by
  rw [Int.fdiv_eq_ediv_of_nonneg _ (Int.natCast_nonneg _)]; rfl
theorem fmodN (a b : Nat) : ((a : Int)).fmod (b : Int) = ((a % b : Nat) : Int) := by
  rw [Int.fmod_eq_emod_of_nonneg _ (Int.natCast_nonneg _)]; rfl
theorem pow10c (k : Nat) : ((10 : Int) ^ k) = ((10 ^ k : Nat) : Int) := by simp
/-- cut towards zero, by signs and sizes -/
theorem lcut_sg (m : Int) (u : Nat) (hu : 0 < u) : lcut m u = if m < 0 then -((m.natAbs / u : Nat) : Int) else ((m.natAbs / u : Nat) : Int) := by
  unfold lcut
  by_cases h : m < 0
  · rw [if_pos (by simpa using h), if_pos h]
    have : -m = (m.natAbs : Int) := by (first | lia | omega)
    rw [this, fdivN]
  · rw [if_neg (by simpa using h), if_neg h]
    have : m = (m.natAbs : Int) := by (first | lia | omega)
    rw [this, fdivN]
    simp
theorem toI_sg (x : Int × Int) : toI x = if 0 ≤ x.2 then x.1 * 10 ^ x.2.toNat else if x.1 < 0 then -((x.1.natAbs / 10 ^ (-x.2).toNat : Nat) : Int) else ((x.1.natAbs / 10 ^ (-x.2).toNat : Nat) : Int) := by
  unfold toI
  by_cases h : 0 ≤ x.2
  · rw [if_pos (by simpa using h), if_pos h]
  · rw [if_neg (by simpa using h), if_neg h]
    have e : ((x.1.natAbs : Int)).fdiv (10 ^ (-x.2).toNat) = ((x.1.natAbs / 10 ^ (-x.2).toNat : Nat) : Int) := by
      rw [pow10c, fdivN]
    rw [e]
    by_cases h0 : x.1 < 0
    · rw [if_neg (by simp; (first | lia | omega)), if_pos h0]
    · rw [if_neg h0]
      by_cases h1 : 0 < x.1
      · rw [if_pos (by simpa using h1)]
      · have : x.1 = 0 := by (clear e h; lia)
        rw [this]; simp
theorem FX_neg (x : Int × Int) : FX x < 0 ↔ x.1 < 0 := by
  unfold FX
  have hp := pow10_pos (x.2 + 40).toNat
  constructor
  · intro h
    apply Int.lt_of_not_ge
    intro h2
    have := Int.mul_nonneg h2 (Int.le_of_lt hp)
    (clear h2 hp; lia)
  · exact fun h => Int.mul_neg_of_neg_of_pos h hp
theorem toI_whole {x : Int × Int} (h : -40 ≤ x.2) : wholeI x false = toI x := by
  show lcut (FX x) (10 ^ 40) = _
  rw [pow10c, lcut_sg _ _ (by decide), toI_sg]
  have hn : (FX x).natAbs = x.1.natAbs * 10 ^ (x.2 + 40).toNat := natAbs_mulpow
  rw [hn]
  by_cases hs : FX x < 0
  · have hs' := (FX_neg x).mp hs
    rw [if_pos hs]
    by_cases he : 0 ≤ x.2
    · rw [if_pos he]
      have e : (x.2 + 40).toNat = x.2.toNat + 40 := by (first | lia | omega)
      rw [e, Nat.pow_add, ← Nat.mul_assoc, Nat.mul_div_cancel _ (by decide)]
      have : x.1 = -(x.1.natAbs : Int) := by (first | lia | omega)
      rw [Int.natCast_mul, ← pow10c]
      conv => rhs; rw [this]
      rw [Int.neg_mul]
    · rw [if_neg he, if_pos hs']
      have e : 40 = (x.2 + 40).toNat + (-x.2).toNat := by (clear hs' hs hn; lia)
      have e2 : x.1.natAbs * 10 ^ (x.2 + 40).toNat / 10 ^ 40 = x.1.natAbs / 10 ^ (-x.2).toNat := by
        conv => lhs; rw [show (10 : Nat) ^ 40 = 10 ^ ((x.2 + 40).toNat + (-x.2).toNat) by rw [← e]]
        rw [Nat.pow_add, Nat.mul_comm (10 ^ (x.2 + 40).toNat), Nat.mul_div_mul_right _ _ (pow_pos10 _)]
      rw [e2]
  · have hs' : ¬ x.1 < 0 := fun h => hs ((FX_neg x).mpr h)
    rw [if_neg hs]
    by_cases he : 0 ≤ x.2
    · rw [if_pos he]
      have e : (x.2 + 40).toNat = x.2.toNat + 40 := by (first | lia | omega)
      rw [e, Nat.pow_add, ← Nat.mul_assoc, Nat.mul_div_cancel _ (by decide)]
      have : x.1 = (x.1.natAbs : Int) := by (first | lia | omega)
      rw [Int.natCast_mul, ← pow10c]
      conv => rhs; rw [this]
    · rw [if_neg he, if_neg hs']
      have e : 40 = (x.2 + 40).toNat + (-x.2).toNat := by (first | lia | omega)
      have e2 : x.1.natAbs * 10 ^ (x.2 + 40).toNat / 10 ^ 40 = x.1.natAbs / 10 ^ (-x.2).toNat := by
        conv => lhs; rw [show (10 : Nat) ^ 40 = 10 ^ ((x.2 + 40).toNat + (-x.2).toNat) by rw [← e]]
        rw [Nat.pow_add, Nat.mul_comm (10 ^ (x.2 + 40).toNat), Nat.mul_div_mul_right _ _ (pow_pos10 _)]
      rw [e2]
end Mine
end
section
open PySem PySem.W PySem.Calls PyProof.Rows
set_option Elab.async false
set_option maxRecDepth 100000
set_option linter.unusedVariables false
set_option exponentiation.threshold 2000
namespace Mine
theorem half_whole {x : Int × Int} (h : -40 ≤ x.2) : wholeI x true = halfI x := by
  have hH : ((10 : Int) ^ 40).fdiv 2 = ((5 * 10 ^ 39 : Nat) : Int) := by decide +kernel
  have hn : (FX x).natAbs = x.1.natAbs * 10 ^ (x.2 + 40).toNat := natAbs_mulpow
  -- the code's side
  let l := min x.2 (-1)
  have hl : l ≤ -1 := Int.min_le_right _ _
  have hl2 : l ≤ x.2 := Int.min_le_left _ _
  have hl3 : -40 ≤ l := by show -40 ≤ min x.2 (-1); (clear hl2 hl hn hH; lia)
  let Y : Nat := x.1.natAbs * 10 ^ (x.2 - l).toNat + 5 * 10 ^ (-1 - l).toNat
  have hadd : addI ((x.1.natAbs : Int), x.2) (5, -1) = ((Y : Int), l) := by
    show (_, _) = _
    refine Prod.ext ?_ rfl
    show (x.1.natAbs : Int) * 10 ^ (x.2 - l).toNat + 5 * 10 ^ (-1 - l).toNat = (Y : Int)
    simp only [Y, Int.natCast_add, Int.natCast_mul, Int.natCast_pow]
    rfl
  have hto : toI (addI ((x.1.natAbs : Int), x.2) (5, -1)) = ((Y / 10 ^ (-l).toNat : Nat) : Int) := by
    rw [hadd, toI_sg]
    have h1 : ¬ (0 ≤ (((Y : Int), l) : Int × Int).2) := by show ¬ (0 ≤ l); (first | lia | omega)
    have h2 : ¬ ((((Y : Int), l) : Int × Int).1 < 0) := by show ¬ ((Y : Int) < 0); (clear h1 hadd hl3 hl2 hl hn hH h; omega)
    rw [if_neg h1, if_neg h2]
    rfl
  have key : Y / 10 ^ (-l).toNat = ((FX x).natAbs + 5 * 10 ^ 39) / 10 ^ 40 := by
    have e1 : (FX x).natAbs + 5 * 10 ^ 39 = Y * 10 ^ (l + 40).toNat := by
      rw [hn, Nat.add_mul, Nat.mul_assoc, Nat.mul_assoc, ← Nat.pow_add, ← Nat.pow_add]
      congr 1
      · congr 2; (first | lia | omega)
      · congr 2; (first | lia | omega)
    have e2 : (10 : Nat) ^ 40 = 10 ^ (-l).toNat * 10 ^ (l + 40).toNat := by
      rw [← Nat.pow_add]; congr 1; (first | lia | omega)
    rw [e1, e2, Nat.mul_div_mul_right _ _ (pow_pos10 _)]
  unfold halfI
  rw [hto, key]
  show lcut (nearI (FX x)) (10 ^ 40) = _
  rw [pow10c, lcut_sg _ _ (by decide)]
  unfold nearI
  rw [hH]
  by_cases hp : FX x > 0
  · have e0 : (if decide (FX x > 0) = true then ((5 * 10 ^ 39 : Nat) : Int) else -((5 * 10 ^ 39 : Nat) : Int)) = ((5 * 10 ^ 39 : Nat) : Int) := if_pos (by simpa using hp)
    rw [e0]
    have h1 : ¬ (FX x + ((5 * 10 ^ 39 : Nat) : Int) < 0) := by (first | lia | omega)
    have h2 : ¬ x.1 < 0 := fun h => by have := (FX_neg x).mpr h; (first | lia | omega)
    rw [if_neg h1, if_neg (by simpa using h2)]
    congr 2
    (clear h2 h1 e0 key hto hadd hl3 hl2 hl hn hH h; lia)
  · have e0 : (if decide (FX x > 0) = true then ((5 * 10 ^ 39 : Nat) : Int) else -((5 * 10 ^ 39 : Nat) : Int)) = -((5 * 10 ^ 39 : Nat) : Int) := if_neg (by simpa using hp)
    rw [e0]
    have h1 : FX x + -((5 * 10 ^ 39 : Nat) : Int) < 0 := by (first | lia | omega)
    rw [if_pos h1]
    have e : (FX x + -((5 * 10 ^ 39 : Nat) : Int)).natAbs = (FX x).natAbs + 5 * 10 ^ 39 := by (clear h1 e0 key hto hadd hl3 hl2 hl hn hH h; lia)
    rw [e]
    by_cases h2 : x.1 < 0
    · rw [if_pos (by simpa using h2)]
    · rw [if_neg (by simpa using h2)]
      have h3 : FX x = 0 := by
        have : ¬ FX x < 0 := fun h => h2 ((FX_neg x).mp h)
        (clear h2 e h1 e0 key hto hadd hl3 hl2 hl hn hH h; lia)
      rw [h3]
      decide +kernel
theorem told_int {n : Int} {d : Nat} : told (n * 10 ^ 40) d = roundD n 0 d := told_scale (m := n) (e := 0) (by decide)
theorem told_abs {x : Int × Int} {d : Nat} (h : -40 ≤ x.2) : told ((FX x).natAbs : Int) d = roundD x.1.natAbs x.2 d := by
  have : ((FX x).natAbs : Int) = (x.1.natAbs : Int) * 10 ^ (x.2 + 40).toNat := by
    have := @natAbs_mulpow x.1 (x.2 + 40).toNat
    show (((x.1 * 10 ^ (x.2 + 40).toNat).natAbs : Nat) : Int) = _
    rw [this, Int.natCast_mul, ← pow10c]
  rw [this]
  exact told_scale h
theorem Nf.neg {x : Int × Int} (h : Nf x) : Nf (-x.1, x.2) := by
  rcases h with rfl | h
  · exact .inl rfl
  · right; show -x.1 % 10 ≠ 0; (first | lia | omega)
theorem Nf.abs {x : Int × Int} (h : Nf x) : Nf ((x.1.natAbs : Int), x.2) := by
  rcases h with rfl | h
  · exact .inl rfl
  · right; show (x.1.natAbs : Int) % 10 ≠ 0; (first | lia | omega)
/-- equal numbers in normal form are equal pairs -/
theorem FX_inj {x y : Int × Int} (hx : Nf x) (hy : Nf y) (h1 : -40 ≤ x.2) (h2 : -40 ≤ y.2) (h : FX x = FX y) : x = y := by
  have e1 : strip (FX x) (-40) = strip (FX y) (-40) := by rw [h]
  have st : ∀ z : Int × Int, Nf z → -40 ≤ z.2 → strip (FX z) (-40) = z := by
    intro z hz h3
    rcases hz with rfl | hz
    · decide +kernel
    · have h0 : z.1 ≠ 0 := fun q => by rw [q] at hz; exact hz rfl
      unfold FX
      rw [strip_mulpow h0, strip_end hz]
      refine Prod.ext rfl ?_
      show -40 + ((z.2 + 40).toNat : Int) = z.2
      (first | lia | omega)
  rw [st x hx h1, st y hy h2] at e1
  exact e1
end Mine
end
section
open PySem PySem.W PySem.Calls PyProof.Rows
set_option Elab.async false
set_option maxRecDepth 100000
set_option linter.unusedVariables false
set_option exponentiation.threshold 2000
namespace Mine
/-- the reals that the law draws -/
structure Rl (D : Nat) (x : Int × Int) : Prop where
  nf : Nf x
  dg : cd x.1.natAbs ≤ D
  lo : -3 ≤ x.2
  hi : x.2 ≤ 12
  sz : x.1.natAbs * 10 ^ (x.2 + 3).toNat < 10 ^ 15
theorem Rl.lo40 {D : Nat} {x : Int × Int} (h : Rl D x) : -40 ≤ x.2 := by have := h.lo; (first | lia | omega)
theorem Rl.small {D : Nat} {x : Int × Int} (h : Rl D x) : x.1.natAbs < 10 ^ 15 := Nat.lt_of_le_of_lt (Nat.le_mul_of_pos_right _ (pow_pos10 _)) h.sz
theorem Rl.md {D : Nat} {x : Int × Int} (h : Rl D x) : Md x := ⟨Nat.le_trans (cd_le_of h.small) (by decide), by have := h.lo; (first | lia | omega), by have := h.hi; (first | lia | omega)⟩
theorem InR.of6 {m e : Int} (he : -6 ≤ e) (h : m.natAbs * 10 ^ (e + 6).toNat < 10 ^ 30) : InR m e := by
  have h1 : m.natAbs < 10 ^ 30 := Nat.lt_of_le_of_lt (Nat.le_mul_of_pos_right _ (pow_pos10 _)) h
  refine ⟨Nat.le_trans (cd_le_of h1) (by decide), fun h0 => ?_⟩
  have hc := cd_le_of h
  have h0' : m.natAbs ≠ 0 := by (clear hc h1 h he; lia)
  rw [cd_mulpow h0'] at hc
  have := cd_pos h0'
  (clear this h0' h0 h1 h; lia)
theorem Rl.inR {D : Nat} {x : Int × Int} (h : Rl D x) : InR x.1 x.2 := by
  refine InR.of6 (by have := h.lo; (first | lia | omega)) ?_
  have e : (x.2 + 6).toNat = (x.2 + 3).toNat + 3 := by have := h.lo; (first | lia | omega)
  rw [e, Nat.pow_add, ← Nat.mul_assoc]
  exact Nat.lt_of_lt_of_le (Nat.mul_lt_mul_of_pos_right h.sz (by decide)) (by decide)
theorem FX_size {D : Nat} {x : Int × Int} (h : Rl D x) : (FX x).natAbs < 10 ^ 52 := by
  have e : (x.2 + 40).toNat = (x.2 + 3).toNat + 37 := by have := h.lo; (first | lia | omega)
  unfold FX
  rw [natAbs_mulpow, e, Nat.pow_add, ← Nat.mul_assoc]
  exact Nat.lt_of_lt_of_le (Nat.mul_lt_mul_of_pos_right h.sz (by decide)) (by decide)
theorem whole_size {D : Nat} {x : Int × Int} (h : Rl D x) (b : Bool) : (wholeI x b).natAbs < 10 ^ 14 := by
  have hn := FX_size h
  have key : ∀ n : Int, n.natAbs < 10 ^ 53 → (lcut n (10 ^ 40)).natAbs < 10 ^ 14 := by
    intro n hn
    rw [pow10c, lcut_sg _ _ (by decide)]
    have : n.natAbs / 10 ^ 40 < 10 ^ 14 := by
      rw [Nat.div_lt_iff_lt_mul (by decide)]
      exact Nat.lt_of_lt_of_le hn (by decide)
    split <;> (first | lia | omega)
  unfold wholeI
  refine key _ ?_
  cases b with
  | false => exact Nat.lt_of_lt_of_le hn (by decide)
  | true =>
    have hH : ((10 : Int) ^ 40).fdiv 2 = ((5 * 10 ^ 39 : Nat) : Int) := by decide +kernel
    show (nearI (FX x)).natAbs < 10 ^ 53
    unfold nearI
    rw [hH]
    split <;> omega
theorem whole_InR {D : Nat} {x : Int × Int} (h : Rl D x) (b : Bool) : InR (wholeI x b) 0 := InR.of6 (by decide) (by
  have := whole_size h b
  exact Nat.lt_of_lt_of_le (Nat.mul_lt_mul_of_pos_right this (by decide)) (by decide))
theorem cut_rest {a b : Int} (hb : b ≠ 0) : a - cutI a b * b = if a < 0 then -((a.natAbs % b.natAbs : Nat) : Int) else ((a.natAbs % b.natAbs : Nat) : Int) := by
  have h := Nat.div_add_mod a.natAbs b.natAbs
  have hz : (b.natAbs : Int) * ((a.natAbs / b.natAbs : Nat) : Int) + ((a.natAbs % b.natAbs : Nat) : Int) = (a.natAbs : Int) := by
    have := congrArg (Nat.cast (R := Int)) h
    rw [Int.natCast_add, Int.natCast_mul] at this
    exact this
  unfold cutI
  rw [fdivN]
  generalize ((a.natAbs / b.natAbs : Nat) : Int) = q at hz ⊢
  generalize ((a.natAbs % b.natAbs : Nat) : Int) = r at hz ⊢
  by_cases h1 : a < 0 <;> by_cases h2 : b < 0
  · have hc : (decide (a < 0) == decide (b < 0)) = true := by simp [h1, h2]
    rw [if_pos hc, if_pos h1]
    have e1 : (a.natAbs : Int) = -a := by (first | lia | omega)
    have e2 : (b.natAbs : Int) = -b := by (clear e1 hc h1 hz h hb; lia)
    rw [e1, e2] at hz
    have := Int.mul_comm q b
    rw [Int.neg_mul] at hz
    (clear e2 e1 hc h2 h1 h hb; lia)
  · have hc : ¬ ((decide (a < 0) == decide (b < 0)) = true) := by simp [h1, h2]
    rw [if_neg hc, if_pos h1]
    have e1 : (a.natAbs : Int) = -a := by (first | lia | omega)
    have e2 : (b.natAbs : Int) = b := by (first | lia | omega)
    rw [e1, e2] at hz
    have := Int.mul_comm q b
    rw [Int.neg_mul]
    (clear e2 e1 hc h2 h1 h hb; lia)
  · have hc : ¬ ((decide (a < 0) == decide (b < 0)) = true) := by simp [h1, h2]
    rw [if_neg hc, if_neg h1]
    have e1 : (a.natAbs : Int) = a := by (first | lia | omega)
    have e2 : (b.natAbs : Int) = -b := by (first | lia | omega)
    rw [e1, e2] at hz
    have := Int.mul_comm q b
    rw [Int.neg_mul] at hz ⊢
    (clear e2 e1 hc h2 h1 h hb; lia)
  · have hc : (decide (a < 0) == decide (b < 0)) = true := by simp [h1, h2]
    rw [if_pos hc, if_neg h1]
    have e1 : (a.natAbs : Int) = a := by (first | lia | omega)
    have e2 : (b.natAbs : Int) = b := by (first | lia | omega)
    rw [e1, e2] at hz
    have := Int.mul_comm q b
    (clear e2 e1 hc h2 h1 h hb; lia)
theorem FX_over {x : Int × Int} {l : Int} (h1 : -40 ≤ l) (h2 : l ≤ x.2) : FX x = x.1 * 10 ^ (x.2 - l).toNat * 10 ^ (l + 40).toNat := by
  unfold FX
  rw [Int.mul_assoc, ← Int.pow_add]
  congr 2
  (first | lia | omega)
theorem numI_MOD (x y : Int) : numI "MOD" x y = if y == 0 then none else some (if x < 0 then -((x.natAbs % y.natAbs : Nat) : Int) else ((x.natAbs % y.natAbs : Nat) : Int)) := by
  show (if y == 0 then none else some (if decide (x < 0) = true then -((x.natAbs : Int).fmod y.natAbs) else (x.natAbs : Int).fmod y.natAbs)) = _
  rw [fmodN]
  simp only [decide_eq_true_eq]
/-- MOD of reals -/
theorem mod_real {x y : Int × Int} {d : Nat} (hx : -40 ≤ x.2) (hy : -40 ≤ y.2) (h0 : y.1 ≠ 0) :
    ∃ f, numI "MOD" (FX x) (FX y) = some f ∧ told f d = roundD (overI x y - cutI (overI x y) (underI x y) * underI x y) (min x.2 y.2) d := by
  have hl : -40 ≤ min x.2 y.2 := by (first | lia | omega)
  have ex : FX x = overI x y * 10 ^ (min x.2 y.2 + 40).toNat := FX_over hl (Int.min_le_left _ _)
  have ey : FX y = underI x y * 10 ^ (min x.2 y.2 + 40).toNat := FX_over hl (Int.min_le_right _ _)
  have hu : underI x y ≠ 0 := Int.mul_ne_zero h0 (Int.ne_of_gt (pow10_pos _))
  have hy0 : FX y ≠ 0 := by rw [ey]; exact Int.mul_ne_zero hu (Int.ne_of_gt (pow10_pos _))
  refine ⟨_, by rw [numI_MOD, if_neg (by simpa using hy0)], ?_⟩
  rw [cut_rest hu, ex, ey, natAbs_mulpow, natAbs_mulpow, Nat.mul_mod_mul_right]
  rw [← told_scale hl]
  congr 1
  have hp := pow10_pos (min x.2 y.2 + 40).toNat
  by_cases h : overI x y < 0
  · rw [if_pos (Int.mul_neg_of_neg_of_pos h hp), if_pos h, Int.natCast_mul, ← pow10c, Int.neg_mul]
  · rw [if_neg h, Int.natCast_mul, ← pow10c, if_neg]
    have := Int.mul_nonneg (Int.not_lt.mp h) (Int.le_of_lt hp)
    (clear h hp hy0 hu ey ex hl h0 hy hx; lia)
theorem addI_FX {x y : Int × Int} (hx : -40 ≤ x.2) (hy : -40 ≤ y.2) : (addI x y).1 * 10 ^ (min x.2 y.2 + 40).toNat = FX x + FX y := by
  have hl : -40 ≤ min x.2 y.2 := by (first | lia | omega)
  rw [FX_over (x := x) hl (Int.min_le_left _ _), FX_over (x := y) hl (Int.min_le_right _ _), ← Int.add_mul]
  rfl
theorem FX_negx (x : Int × Int) : FX (-x.1, x.2) = -FX x := by unfold FX; rw [Int.neg_mul]
theorem cmpI_FX {x y : Int × Int} (hx : -40 ≤ x.2) (hy : -40 ≤ y.2) : cmpI x y = orderI (FX x) (FX y) := by
  have h := addI_FX (x := x) (y := (-y.1, y.2)) hx hy
  rw [FX_negx] at h
  dsimp only at h
  have hp := pow10_pos (min x.2 y.2 + 40).toNat
  have h : (addI x (-y.1, y.2)).1 * 10 ^ (min x.2 y.2 + 40).toNat = FX x - FX y := by (first | lia | omega)
  unfold cmpI
  generalize (addI x (-y.1, y.2)).1 = a at h ⊢
  unfold orderI
  by_cases h0 : a = 0
  · have : FX x = FX y := by rw [h0, Int.zero_mul] at h; (clear h0 hp hy hx; omega)
    simp [h0, this]
  · by_cases h1 : a < 0
    · have := Int.mul_neg_of_neg_of_pos h1 hp
      have e1 : FX x ≠ FX y := by (clear h1 h0 hp hy hx; omega)
      have e2 : FX x < FX y := by (clear e1 h1 h0 hp hy hx; omega)
      simp [h0, h1, e1, e2]
    · have := Int.mul_pos (show 0 < a by (first | lia | omega)) hp
      have e1 : FX x ≠ FX y := by (clear h1 h0 hp hy hx; omega)
      have e2 : ¬ FX x < FX y := by (clear e1 h1 h0 hp hy hx; omega)
      simp [h0, h1, e1, e2]
theorem orderI_le (a b : Int) : decide (orderI a b ≤ 0) = decide (a ≤ b) := by
  unfold orderI
  by_cases h : a = b
  · simp [h]
  · by_cases h1 : a < b
    · have : a ≤ b := by (first | lia | omega)
      simp [h, h1, this]
    · have : ¬ a ≤ b := by (first | lia | omega)
      simp [h, h1, this]
theorem dim_real {x y : Int × Int} {d : Nat} (hx : -40 ≤ x.2) (hy : -40 ≤ y.2) :
    told (max (FX x - FX y) 0) d = if decide (cmpI x y ≤ 0) then (0, 0) else roundD (addI x (-y.1, y.2)).1 (addI x (-y.1, y.2)).2 d := by
  rw [cmpI_FX hx hy, orderI_le]
  by_cases h : FX x ≤ FX y
  · have : max (FX x - FX y) 0 = 0 := by (first | lia | omega)
    rw [if_pos (by simpa using h), this]
    exact roundD_zero
  · have : max (FX x - FX y) 0 = FX x - FX y := by (first | lia | omega)
    rw [if_neg (by simpa using h), this]
    have e := addI_FX (x := x) (y := (-y.1, y.2)) hx hy
    rw [FX_negx] at e
    dsimp only at e
    have e : (addI x (-y.1, y.2)).1 * 10 ^ (min x.2 y.2 + 40).toNat = FX x - FX y := by (first | lia | omega)
    rw [← e]
    exact told_scale (by (first | lia | omega))
theorem sign_real {x : Int × Int} {p : Bool} {d : Nat} (h : Nf x) (hc : cd x.1.natAbs ≤ d) (hx : -40 ≤ x.2) : told (if p then ((FX x).natAbs : Int) else -((FX x).natAbs : Int)) d = ((if p then (x.1.natAbs : Int) else -(x.1.natAbs : Int)), x.2) := by
  have ha := told_abs (x := x) (d := d) hx
  have hr : roundD (x.1.natAbs : Int) x.2 d = ((x.1.natAbs : Int), x.2) := roundD_nf (x := ((x.1.natAbs : Int), x.2)) h.abs (by simpa using hc)
  cases p with
  | true => exact ha.trans hr
  | false =>
    show told (-((FX x).natAbs : Int)) d = (-(x.1.natAbs : Int), x.2)
    unfold told at ha ⊢
    rw [roundD_neg, ha, hr]
theorem FX_nonneg (x : Int × Int) : decide (FX x ≥ 0) = decide (x.1 ≥ 0) := by
  have := FX_neg x
  by_cases h : x.1 < 0
  · have h2 := this.mpr h
    have e1 : ¬ FX x ≥ 0 := by (first | lia | omega)
    have e2 : ¬ x.1 ≥ 0 := by (first | lia | omega)
    simp [e1, e2]
  · have h2 : ¬ FX x < 0 := fun q => h (this.mp q)
    have e1 : FX x ≥ 0 := by (first | lia | omega)
    have e2 : x.1 ≥ 0 := by (first | lia | omega)
    simp [e1, e2]
end Mine
end
section
open PySem PySem.W PySem.Calls PyProof.Rows
set_option Elab.async false
set_option maxRecDepth 100000
set_option linter.unusedVariables false
set_option exponentiation.threshold 2000
namespace Mine
theorem orderI_1 (a b : Int) : (orderI a b == 1) = decide (b < a) := by
  unfold orderI
  by_cases h : a = b
  · simp [h]
  · by_cases h1 : a < b
    · have : ¬ b < a := by (first | lia | omega)
      simp [h, h1, this]
    · have : b < a := by (first | lia | omega)
      simp [h, h1, this]
theorem orderI_m1 (a b : Int) : (orderI a b == -1) = decide (a < b) := by
  unfold orderI
  by_cases h : a = b
  · simp [h]
  · by_cases h1 : a < b
    · simp [h, h1]
    · simp [h, h1]
theorem ext_max (K : D → Int) : ∀ (vs : List D) (b : D), K b ≤ K (extI (fun a b => orderI (K a) (K b)) 1 b vs) ∧ ∀ d ∈ vs, K d ≤ K (extI (fun a b => orderI (K a) (K b)) 1 b vs)
  | [], b => ⟨Int.le_refl _, fun d h => by simp at h⟩
  | v :: vs, b => by
    show K b ≤ K (extI _ 1 (if (orderI (K v) (K b) == 1) = true then v else b) vs) ∧ ∀ d ∈ v :: vs, K d ≤ K (extI _ 1 (if (orderI (K v) (K b) == 1) = true then v else b) vs)
    rw [orderI_1]
    have ih := ext_max K vs (if decide (K b < K v) = true then v else b)
    generalize he : extI (fun a b => orderI (K a) (K b)) 1 (if decide (K b < K v) = true then v else b) vs = r at ih ⊢
    obtain ⟨h1, h2⟩ := ih
    by_cases h : K b < K v
    · rw [if_pos (by simpa using h)] at h1
      exact ⟨by (first | lia | omega), fun d hd => by
        rcases List.mem_cons.mp hd with rfl | hd
        · exact h1
        · exact h2 d hd⟩
    · rw [if_neg (by simpa using h)] at h1
      exact ⟨h1, fun d hd => by
        rcases List.mem_cons.mp hd with rfl | hd
        · (first | lia | omega)
        · exact h2 d hd⟩
theorem ext_min (K : D → Int) : ∀ (vs : List D) (b : D), K (extI (fun a b => orderI (K a) (K b)) (-1) b vs) ≤ K b ∧ ∀ d ∈ vs, K (extI (fun a b => orderI (K a) (K b)) (-1) b vs) ≤ K d
  | [], b => ⟨Int.le_refl _, fun d h => by simp at h⟩
  | v :: vs, b => by
    show K (extI _ (-1) (if (orderI (K v) (K b) == -1) = true then v else b) vs) ≤ K b ∧ ∀ d ∈ v :: vs, K (extI _ (-1) (if (orderI (K v) (K b) == -1) = true then v else b) vs) ≤ K d
    rw [orderI_m1]
    have ih := ext_min K vs (if decide (K v < K b) = true then v else b)
    generalize he : extI (fun a b => orderI (K a) (K b)) (-1) (if decide (K v < K b) = true then v else b) vs = r at ih ⊢
    obtain ⟨h1, h2⟩ := ih
    by_cases h : K v < K b
    · rw [if_pos (by simpa using h)] at h1
      exact ⟨by (first | lia | omega), fun d hd => by
        rcases List.mem_cons.mp hd with rfl | hd
        · exact h1
        · exact h2 d hd⟩
    · rw [if_neg (by simpa using h)] at h1
      exact ⟨h1, fun d hd => by
        rcases List.mem_cons.mp hd with rfl | hd
        · (first | lia | omega)
        · exact h2 d hd⟩
theorem ext_sort {K : D → Int} {v : D} {vs : List D} (h2 : 2 ≤ (v :: vs).length) (h4 : (v :: vs).length ≤ 4) (inj : ∀ a ∈ v :: vs, ∀ b ∈ v :: vs, K a = K b → a = b) :
    extI (fun a b => orderI (K a) (K b)) 1 v (v :: vs) = (v :: vs).getD ((sortI ((v :: vs).map K)).getD (((v :: vs).map K).length - 1) 0) .none ∧
    extI (fun a b => orderI (K a) (K b)) (-1) v (v :: vs) = (v :: vs).getD ((sortI ((v :: vs).map K)).getD 0 0) .none := by
  have hl : ((v :: vs).map K).length = (v :: vs).length := List.length_map _
  obtain ⟨hs, hm, hn, hb⟩ := sortI_max (ks := (v :: vs).map K) (by rw [hl]; exact h2) (by rw [hl]; exact h4)
  have get : ∀ i, i < (v :: vs).length → (v :: vs).getD i .none ∈ v :: vs ∧ ((v :: vs).map K).getD i 0 = K ((v :: vs).getD i .none) := by
    intro i hi
    rw [List.getD_eq_getElem?_getD, List.getD_eq_getElem?_getD, List.getElem?_map, List.getElem?_eq_getElem hi]
    exact ⟨List.getElem_mem hi, rfl⟩
  rw [hl] at hm hn hb ⊢
  have mem : ∀ o, extI (fun a b => orderI (K a) (K b)) o v (v :: vs) ∈ v :: vs := fun o => by
    rcases extI_mem (fun a b => orderI (K a) (K b)) o (v :: vs) v with h | h
    · rw [h]; exact .head _
    · exact h
  have idx : ∀ d ∈ v :: vs, ∃ i, i < (v :: vs).length ∧ (v :: vs).getD i .none = d := by
    intro d hd
    obtain ⟨i, hi, he⟩ := List.mem_iff_getElem.mp hd
    exact ⟨i, hi, by rw [List.getD_eq_getElem?_getD, List.getElem?_eq_getElem hi]; exact he⟩
  constructor
  · obtain ⟨g1, g2⟩ := get _ hm
    refine inj _ (mem 1) _ g1 ?_
    have a1 := (ext_max K (v :: vs) v).2 _ g1
    obtain ⟨i, hi, he⟩ := idx _ (mem 1)
    have a2 := (hb i hi).1
    rw [(get i hi).2, he, g2] at a2
    (clear he hi g2 idx mem get hb hn hm hs hl inj h4 h2; omega)
  · obtain ⟨g1, g2⟩ := get _ hn
    refine inj _ (mem (-1)) _ g1 ?_
    have a1 := (ext_min K (v :: vs) v).2 _ g1
    obtain ⟨i, hi, he⟩ := idx _ (mem (-1))
    have a2 := (hb i hi).2
    rw [(get i hi).2, he, g2] at a2
    (first | lia | omega)
end Mine
end
section
open PySem PySem.W PySem.Calls PyProof.Rows
set_option Elab.async false
set_option maxRecDepth 100000
set_option linter.unusedVariables false
namespace Mine
theorem spot_at (x y : Str) (i : Nat) (hi : i ≤ x.length) : ((Txt.slice x (some (i : Int)) (some ((i : Int) + y.length))) == y) = true ↔ StrLaws.At x y x.length i := by
  have e : ((i : Int) + y.length) = ((i + y.length : Nat) : Int) := by simp
  rw [e, str_eq, decide_eq_true_eq, slice_mid x i (i + y.length) (by (first | lia | omega))]
  have e2 : i + y.length - i = y.length := by (first | lia | omega)
  rw [e2]
  unfold StrLaws.At
  rw [StrLaws.subAt_eq, beq_iff_eq]
  constructor
  · intro h
    refine ⟨?_, h⟩
    have := congrArg List.length h
    rw [List.length_take, List.length_drop, Str.len_list, Str.len_list] at this
    (first | lia | omega)
  · exact fun h => h.2
theorem spotI_find (x y : Str) : Txt.find x y = spotI x y := by
  have hs : spotI x y = match (spotsL x y).head? with | none => -1 | some a => (a : Int) := by
    unfold spotI
    cases spotsL x y <;> rfl
  rw [hs]
  unfold spotsL
  rw [List.head?_filter]
  rcases find_whole x y with ⟨h1, h2⟩ | ⟨i, h1, h2, h3⟩
  · have : (List.range (x.length + 1)).find? (fun (at_ : Nat) => (Txt.slice x (some (at_ : Int)) (some ((at_ : Int) + y.length))) == y) = none := by
      rw [List.find?_eq_none]
      intro i hi hp
      exact h2 i ((spot_at x y i (by have := List.mem_range.mp hi; (first | lia | omega))).mp hp)
    rw [this, h1]
  · have hi : i ≤ x.length := by have := h2.1; (first | lia | omega)
    have : (List.range (x.length + 1)).find? (fun (at_ : Nat) => (Txt.slice x (some (at_ : Int)) (some ((at_ : Int) + y.length))) == y) = some i := by
      rw [List.find?_range_eq_some]
      refine ⟨(spot_at x y i hi).mpr h2, List.mem_range.mpr (by (first | lia | omega)), fun j hj => ?_⟩
      have h4 := h3 j hj
      cases hp : (Txt.slice x (some (j : Int)) (some ((j : Int) + y.length))) == y with
      | false => rfl
      | true => exact absurd ((spot_at x y j (by (first | lia | omega))).mp hp) h4
    rw [this, h1]
theorem blanks_list (x y v : Str) : (v ++ blanks (max (x.length : Int) y.length - v.length)).cps.toList = padL x y v := by
  show (v.cps ++ _).toList = _
  rw [Array.toList_append]
  rfl
theorem coll_lex (x y : Str) : (decide (collI x y ≥ 0) = !decide (padL x y x < padL x y y)) ∧ (decide (collI x y > 0) = decide (padL x y y < padL x y x)) ∧
    (decide (collI x y ≤ 0) = !decide (padL x y y < padL x y x)) ∧ (decide (collI x y < 0) = decide (padL x y x < padL x y y)) := by
  unfold collI orderS
  rw [str_eq, blanks_list x y x, blanks_list x y y]
  generalize padL x y x = p
  generalize padL x y y = q
  by_cases h : p = q
  · subst h
    have : ¬ p < p := List.lt_irrefl p
    simp [this]
  · by_cases h1 : p < q
    · have h2 : ¬ q < p := fun h2 => List.lt_irrefl p (List.lt_trans h1 h2)
      simp [h, h1, h2]
    · have h2 : q < p := by
        apply Classical.byContradiction
        intro h2
        exact h (List.le_antisymm (List.not_lt.mp h2) (List.not_lt.mp h1))
      simp [h, h1, h2]
end Mine
end
section
open PySem PySem.W PySem.Calls PyProof.Rows
set_option Elab.async false
set_option maxRecDepth 100000
set_option linter.unusedVariables false
set_option exponentiation.threshold 2000
namespace Mine
theorem CallOk.up {k k' : Nat} {f : Value} {ds : List D} {r : Option D} (C : CallOk k f ds r) (h : k ≤ k') : CallOk k' f ds r :=
  ⟨C.keep, fun w A base outer s vs Q E a1 a2 a3 a4 a5 a6 a7 a8 a9 a10 => C.go w A base outer s vs Q E a1 (by (first | lia | omega)) (by (first | lia | omega)) a4 a5 a6 a7 a8 a9 a10⟩
noncomputable
def Fine (d : D) : Prop := d.deep = true ∧ d.data = true ∧ d.py.depth ≤ 64
theorem fine_int (n : Int) : Fine (.int n) := ⟨rfl, rfl, Nat.zero_le _⟩
theorem fine_bool (b : Bool) : Fine (.bool b) := ⟨rfl, rfl, Nat.zero_le _⟩
theorem fine_none : Fine .none := ⟨rfl, rfl, Nat.zero_le _⟩
theorem fine_or (o : Option Int) : Fine (orNone o) := by cases o; exact fine_none; exact fine_int _
theorem fine_tup (x : Int × Int) : Fine (tupD x) := ⟨rfl, rfl, by simp [tupD, D.py, D.pyAll, PyData.depth, PyData.depthAll]⟩
theorem fine_cpx (x y : Int × Int) : Fine (.tup [tupD x, tupD y]) := ⟨rfl, rfl, by simp [tupD, D.py, D.pyAll, PyData.depth, PyData.depthAll]⟩
theorem fine_chr (n : Int) (h : n < 256) : Fine (.str ⟨#[n.toNat]⟩) := by
  refine ⟨rfl, ?_, Nat.zero_le _⟩
  show PyData.strOk ⟨#[n.toNat]⟩ = true
  unfold PyData.strOk
  simp
  (first | lia | omega)
/-- the code's answer is the law's -/
noncomputable
def Meet (nm : Str) (kind most wd : Int) (vs : List D) : Prop :=
  ∃ (due : D) (f : Value) (r : Option D), CallOk 5 (.ref 521) [.str nm, .int kind, .lst vs, .int most] (some due) ∧ valueAt theT (placeS kind nm) = some f ∧
    CallOk 9 f [.lst (List.replicate vs.length (.int kind)), .lst vs, .lim wd] r ∧ orElse r = due ∧ (∀ d, r = some d → d.deep = true) ∧ Fine due
structure Wide (wd most : Int) : Prop where
  lo : 6 ≤ wd
  hi : wd ≤ 13
  eq : most = 2 ^ (wd - 1).toNat
theorem Wide.pos {wd most : Int} (h : Wide wd most) : 0 < most := by rw [h.eq]; exact Int.pow_pos (by decide)
theorem Wide.le {wd most : Int} (h : Wide wd most) : most ≤ 4096 := by
  have : (wd - 1).toNat ≤ 12 := by have := h.hi; omega
  rw [h.eq]
  have h2 : (2 : Nat) ^ (wd - 1).toNat ≤ 2 ^ 12 := Nat.pow_le_pow_right (by decide) this
  have h3 : ((2 : Int) ^ (wd - 1).toNat) = ((2 ^ (wd - 1).toNat : Nat) : Int) := by simp
  rw [h3]
  (clear h3 this; omega)
noncomputable
def InB (n most : Int) : Prop := -most ≤ n ∧ n < most
theorem InB.lint {n most : Int} (h : InB n most) : lint n most = some n := lint_in h.1 h.2
theorem InB.small {n most wd : Int} (h : InB n most) (w : Wide wd most) : n.natAbs < 10 ^ 300 := by
  have := w.le
  have h1 := h.1
  have h2 := h.2
  exact Nat.lt_of_lt_of_le (show n.natAbs < 10 ^ 4 by omega) (Nat.pow_le_pow_right (by decide) (by decide))
theorem InB.inR {n most wd : Int} (h : InB n most) (w : Wide wd most) : InR n 0 := InR.of6 (by decide) (by
  have := w.le
  have h1 := h.1
  have h2 := h.2
  exact Nat.lt_of_lt_of_le (Nat.mul_lt_mul_of_pos_right (show n.natAbs < 10 ^ 4 by omega) (by decide)) (by decide))
theorem optI_deep {o : Option Int} : ∀ d, o.map D.int = some d → d.deep = true := fun d h => optDeep h
theorem some_deep {d : D} (h : d.deep = true) : ∀ e, some d = some e → e.deep = true := fun e q => by cases q; exact h
theorem none_deep : ∀ e : D, (none : Option D) = some e → e.deep = true := fun e q => by cases q
theorem meet_INT0 {n most wd : Int} (w : Wide wd most) (h : InB n most) : Meet "INT" 0 most wd [.int n] :=
  ⟨_, .ref 216, _, due_INT0 n most [], by decide +kernel, (as_int_int_ok n wd [] []).up (by decide), by rw [h.lint]; rfl, some_deep rfl, fine_or _⟩
theorem meet_INTr {k most wd : Int} {x : Int × Int} {d : Nat} (w : Wide wd most) (hk : k = 1 ∨ k = 2) (h : Rl d x) : Meet "INT" k most wd [tupD x] := by
  have hc := (as_int_real_ok x k wd [] [] hk h.md (by have := w.lo; (first | lia | omega)) (by have := w.hi; (first | lia | omega))).up (k' := 9) (by decide)
  have hd := due_INTr k most [tupD x] x (by (first | lia | omega)) (by (first | lia | omega)) (.inr ⟨by (first | lia | omega), rfl⟩) h.md h.lo40
  rw [toI_whole h.lo40] at hd
  rcases hk with rfl | rfl
  · exact ⟨_, .ref 216, _, hd, by decide +kernel, hc, fit_lint w.eq, optI_deep, fine_or _⟩
  · exact ⟨_, .ref 216, _, hd, by decide +kernel, hc, fit_lint w.eq, optI_deep, fine_or _⟩
theorem meet_INT3 {most wd : Int} {x y : Int × Int} {d : Nat} (w : Wide wd most) (h : Rl d x) : Meet "INT" 3 most wd [.tup [tupD x, tupD y]] := by
  have hc := (as_int_cpx_ok x y wd [] [] h.md (by have := w.lo; (first | lia | omega)) (by have := w.hi; (first | lia | omega))).up (k' := 9) (by decide)
  have hd := due_INTr 3 most [.tup [tupD x, tupD y]] x (by (first | lia | omega)) (by (first | lia | omega)) (.inl ⟨rfl, _, rfl⟩) h.md h.lo40
  rw [toI_whole h.lo40] at hd
  exact ⟨_, .ref 216, _, hd, by decide +kernel, hc, fit_lint w.eq, optI_deep, fine_or _⟩
theorem FX_cd {D : Nat} {x : Int × Int} (h : Rl D x) : cd (FX x).natAbs ≤ 400 := Nat.le_trans (cd_le_of (FX_size h)) (by decide)
theorem meet_REAL0 {n most wd : Int} (w : Wide wd most) (h : InB n most) : Meet "REAL" 0 most wd [.int n] := by
  have hd := due_REAL0 n most [] (h.small w)
  rw [told_int] at hd
  exact ⟨_, .ref 223, _, hd, by decide +kernel, (as_real_c _ _ 0 wd [] [] rfl (real_as_int_ok n 1 wd (h.inR w))).up (by decide), rfl, some_deep rfl, fine_tup _⟩
theorem meet_DBLE0 {n most wd : Int} (w : Wide wd most) (h : InB n most) : Meet "DBLE" 0 most wd [.int n] := by
  have hd := due_DBLE0 n most [] (h.small w)
  rw [told_int] at hd
  exact ⟨_, .ref 230, _, hd, by decide +kernel, (as_double_c _ _ 0 wd [] [] rfl (real_as_int_ok n 2 wd (h.inR w))).up (by decide), rfl, some_deep rfl, fine_tup _⟩
theorem meet_REALr {k most wd : Int} {x : Int × Int} {d : Nat} (hk : k = 1 ∨ k = 2) (h : Rl d x) : Meet "REAL" k most wd [tupD x] := by
  have hd := due_REALr k most [tupD x] x (by (first | lia | omega)) (by (first | lia | omega)) (.inr ⟨by (first | lia | omega), rfl⟩) h.md h.lo40 (FX_cd h)
  rw [told_FX h.lo40] at hd
  have hc := (as_real_c _ _ k wd [] [] rfl (real_as_real_ok x k 1 wd hk h.inR)).up (k' := 9) (by decide)
  rcases hk with rfl | rfl
  · exact ⟨_, .ref 223, _, hd, by decide +kernel, hc, rfl, some_deep rfl, fine_tup _⟩
  · exact ⟨_, .ref 223, _, hd, by decide +kernel, hc, rfl, some_deep rfl, fine_tup _⟩
theorem meet_DBLEr {k most wd : Int} {x : Int × Int} {d : Nat} (hk : k = 1 ∨ k = 2) (h : Rl d x) : Meet "DBLE" k most wd [tupD x] := by
  have hd := due_DBLEr k most [tupD x] x (by (first | lia | omega)) (by (first | lia | omega)) (.inr ⟨by (first | lia | omega), rfl⟩) h.md h.lo40 (FX_cd h)
  rw [told_FX h.lo40] at hd
  have hc := (as_double_c _ _ k wd [] [] rfl (real_as_real_ok x k 2 wd hk h.inR)).up (k' := 9) (by decide)
  rcases hk with rfl | rfl
  · exact ⟨_, .ref 230, _, hd, by decide +kernel, hc, rfl, some_deep rfl, fine_tup _⟩
  · exact ⟨_, .ref 230, _, hd, by decide +kernel, hc, rfl, some_deep rfl, fine_tup _⟩
theorem meet_REAL3 {most wd : Int} {x y : Int × Int} {d : Nat} (h : Rl d x) : Meet "REAL" 3 most wd [.tup [tupD x, tupD y]] := by
  have hd := due_REALr 3 most [.tup [tupD x, tupD y]] x (by (first | lia | omega)) (by (first | lia | omega)) (.inl ⟨rfl, _, rfl⟩) h.md h.lo40 (FX_cd h)
  rw [told_FX h.lo40] at hd
  exact ⟨_, .ref 223, _, hd, by decide +kernel, (as_real_c _ _ 3 wd [] [] rfl (real_as_cpx_ok x y 1 wd h.inR)).up (by decide), rfl, some_deep rfl, fine_tup _⟩
theorem meet_DBLE3 {most wd : Int} {x y : Int × Int} {d : Nat} (h : Rl d x) : Meet "DBLE" 3 most wd [.tup [tupD x, tupD y]] := by
  have hd := due_DBLEr 3 most [.tup [tupD x, tupD y]] x (by (first | lia | omega)) (by (first | lia | omega)) (.inl ⟨rfl, _, rfl⟩) h.md h.lo40 (FX_cd h)
  rw [told_FX h.lo40] at hd
  exact ⟨_, .ref 230, _, hd, by decide +kernel, (as_double_c _ _ 3 wd [] [] rfl (real_as_cpx_ok x y 2 wd h.inR)).up (by decide), rfl, some_deep rfl, fine_tup _⟩
theorem meet_CMPLX3 {most wd : Int} (x y : Int × Int) : Meet "CMPLX" 3 most wd [.tup [tupD x, tupD y]] :=
  ⟨_, .ref 244, _, due_CMPLX3 most (tupD x) (tupD y) [] rfl, by decide +kernel, (same_complex_ok (.tup [tupD x, tupD y]) (.lim wd) _ [] rfl).up (by decide), rfl, some_deep rfl, fine_cpx _ _⟩
theorem meet_CMPLX1 {most wd : Int} (x : Int × Int) : Meet "CMPLX" 1 most wd [tupD x] :=
  ⟨_, .ref 237, _, due_CMPLX1 most (tupD x) (tupD (0, 0)) [] (by decide) rfl rfl, by decide +kernel, (as_complex1_ok (tupD x) (.lim wd) _ rfl).up (by decide), rfl, some_deep rfl, fine_cpx _ _⟩
theorem meet_CMPLX2 {most wd : Int} (x y : Int × Int) : Meet "CMPLX" 1 most wd [tupD x, tupD y] :=
  ⟨_, .ref 237, _, due_CMPLX1 most (tupD x) (tupD y) [tupD y] (by simp) rfl rfl, by decide +kernel, (as_complex2_ok (tupD x) (tupD y) (.lim wd) _ rfl rfl).up (by decide), rfl, some_deep rfl, fine_cpx _ _⟩
theorem whole_300 {D : Nat} {x : Int × Int} (h : Rl D x) (b : Bool) : (wholeI x b).natAbs < 10 ^ 300 := Nat.lt_of_lt_of_le (whole_size h b) (Nat.pow_le_pow_right (by decide) (by decide))
theorem meet_AINT {k most wd : Int} {x : Int × Int} {d : Nat} (hk : k = 1 ∨ k = 2) (h : Rl d x) : Meet "AINT" k most wd [tupD x] := by
  have hd := due_AINT k most [tupD x] x (by (first | lia | omega)) (.inr ⟨by (first | lia | omega), rfl⟩) h.md h.lo40 (whole_300 h false)
  have hr := whole_InR h false
  rw [toI_whole h.lo40] at hr
  rw [told_int, toI_whole h.lo40] at hd
  have hc := (cut_real_ok x k wd [] [] h.md hr).up (k' := 9) (by decide)
  rcases hk with rfl | rfl
  · exact ⟨_, .ref 251, _, hd, by decide +kernel, hc, rfl, some_deep rfl, fine_tup _⟩
  · exact ⟨_, .ref 251, _, hd, by decide +kernel, hc, rfl, some_deep rfl, fine_tup _⟩
theorem meet_ANINT {k most wd : Int} {x : Int × Int} {d : Nat} (hk : k = 1 ∨ k = 2) (h : Rl d x) : Meet "ANINT" k most wd [tupD x] := by
  have hd := due_ANINT k most [tupD x] x (by (first | lia | omega)) (.inr ⟨by (first | lia | omega), rfl⟩) h.md h.lo40 (whole_300 h true)
  have hr := whole_InR h true
  rw [half_whole h.lo40] at hr
  rw [told_int, half_whole h.lo40] at hd
  have hc := (near_real_ok x k wd [] [] h.md hr).up (k' := 9) (by decide)
  rcases hk with rfl | rfl
  · exact ⟨_, .ref 258, _, hd, by decide +kernel, hc, rfl, some_deep rfl, fine_tup _⟩
  · exact ⟨_, .ref 258, _, hd, by decide +kernel, hc, rfl, some_deep rfl, fine_tup _⟩
theorem meet_NINT {k most wd : Int} {x : Int × Int} {d : Nat} (w : Wide wd most) (hk : k = 1 ∨ k = 2) (h : Rl d x) : Meet "NINT" k most wd [tupD x] := by
  have hd := due_NINT k most [tupD x] x (by (first | lia | omega)) (.inr ⟨by (first | lia | omega), rfl⟩) h.md h.lo40
  rw [half_whole h.lo40] at hd
  have hc := (near_int_ok x wd (.lst [.int k]) [] h.md (by have := w.lo; (first | lia | omega)) (by have := w.hi; (first | lia | omega))).up (k' := 9) (by decide)
  rcases hk with rfl | rfl
  · exact ⟨_, .ref 265, _, hd, by decide +kernel, hc, fit_lint w.eq, optI_deep, fine_or _⟩
  · exact ⟨_, .ref 265, _, hd, by decide +kernel, hc, fit_lint w.eq, optI_deep, fine_or _⟩
end Mine
end
section
open PySem PySem.W PySem.Calls PyProof.Rows
set_option Elab.async false
set_option maxRecDepth 100000
set_option linter.unusedVariables false
set_option exponentiation.threshold 10000
namespace Mine
theorem numI_size {nm : Str} {x y f : Int} (hx : x.natAbs < 10 ^ 60) (hy : y.natAbs < 10 ^ 60) (h : numI nm x y = some f) : cd f.natAbs ≤ 400 := by
  refine Nat.le_trans (cd_le_of (k := 61) ?_) (by decide)
  unfold numI at h
  split at h
  · cases h; (first | lia | omega)
  · split at h
    · split at h
      · cases h
      · rename_i h0
        have hy0 : 0 < y.natAbs := by
          have : y ≠ 0 := fun q => h0 (by rw [q]; rfl)
          (clear h h0 hy hx; lia)
        have := Nat.mod_lt x.natAbs hy0
        rw [fmodN] at h
        split at h <;> (cases h; omega)
    · split at h
      · split at h <;> (cases h; (first | lia | omega))
      · cases h; omega
theorem InB.s60 {n most wd : Int} (h : InB n most) (w : Wide wd most) : n.natAbs < 10 ^ 60 := by
  have := w.le
  have h1 := h.1
  have h2 := h.2
  exact Nat.lt_of_lt_of_le (show n.natAbs < 10 ^ 4 by omega) (Nat.pow_le_pow_right (by decide) (by decide))
theorem Rl.s60 {D : Nat} {x : Int × Int} (h : Rl D x) : (FX x).natAbs < 10 ^ 60 := Nat.lt_of_lt_of_le (FX_size h) (Nat.pow_le_pow_right (by decide) (by decide))
theorem plain0 {n : Int} : Plain 0 (.int n) := .inl ⟨rfl, n, rfl⟩
theorem plainR {k : Int} {x : Int × Int} {d : Nat} (hk : k = 1 ∨ k = 2) (h : Rl d x) : Plain k (tupD x) := .inr ⟨by (first | lia | omega), x, rfl, h.md, h.lo40⟩
theorem plD_R {k : Int} {x : Int × Int} (hk : k = 1 ∨ k = 2) : plD k (tupD x) = .int (FX x) := by
  rcases hk with rfl | rfl <;> rfl
theorem rl_dg {k : Int} {x : Int × Int} {d : Nat} (h : Rl d x) (hd : d = dg k) : cd x.1.natAbs ≤ dg k := hd ▸ h.dg
theorem meet_ABS0 {n most wd : Int} (w : Wide wd most) (h : InB n most) : Meet "ABS" 0 most wd [.int n] := by
  have hd := due_ABS 0 most n n (.int n) [] (by decide) (by decide) (by decide) (fun d hm => by rw [List.mem_singleton.mp hm]; exact plain0) rfl rfl (fun f => numI_size (h.s60 w) (h.s60 w))
  exact ⟨_, .ref 272, _, hd, by decide +kernel, (without_sign_int_ok n wd [] [] (by have := w.lo; (first | lia | omega)) (by have := w.hi; (first | lia | omega))).up (by decide), fit_lint w.eq, optI_deep, fine_or _⟩
theorem meet_ABSr {k most wd : Int} {x : Int × Int} {d : Nat} (hk : k = 1 ∨ k = 2) (h : Rl d x) (hdg : d = dg k) : Meet "ABS" k most wd [tupD x] := by
  have hd := due_ABS k most (FX x) (FX x) (tupD x) [] (by (first | lia | omega)) (by (first | lia | omega)) (by decide) (fun e hm => by rw [List.mem_singleton.mp hm]; exact plainR hk h) (plD_R hk) (by show some (plD k (tupD x)) = _; rw [plD_R hk]) (fun f => numI_size h.s60 h.s60)
  have hc := (without_sign_real_ok x k wd [] [] hk).up (k' := 9) (by decide)
  have e : dueI k (dg k) most (numI "ABS" (FX x) (FX x)) = tupD ((x.1.natAbs : Int), x.2) := by
    show (if k == 0 then orNone (lint _ most) else tupD (told ((FX x).natAbs : Int) (dg k))) = _
    rw [if_neg (by simp; (first | lia | omega)), told_abs h.lo40, roundD_nf (x := ((x.1.natAbs : Int), x.2)) h.nf.abs (by simpa using rl_dg h hdg)]
  rw [e] at hd
  rcases hk with rfl | rfl
  · exact ⟨_, .ref 272, _, hd, by decide +kernel, hc, rfl, some_deep rfl, fine_tup _⟩
  · exact ⟨_, .ref 272, _, hd, by decide +kernel, hc, rfl, some_deep rfl, fine_tup _⟩
theorem mem2 {α : Type} {P : α → Prop} {a b : α} (ha : P a) (hb : P b) : ∀ d ∈ [a, b], P d := fun d hd => by
  rcases List.mem_cons.mp hd with rfl | hd
  · exact ha
  · rw [List.mem_singleton.mp hd]; exact hb
theorem fine_dueI (k : Int) (d : Nat) (most : Int) (o : Option Int) : Fine (dueI k d most o) := by
  unfold dueI
  split
  · exact fine_none
  · split
    · exact fine_or _
    · exact fine_tup _
theorem log2_s {n : Nat} (h : n < 10 ^ 300) : n.log2 < 9000 := by
  by_cases h0 : n = 0
  · rw [h0]; decide
  · rw [Nat.log2_lt h0]
    exact Nat.lt_of_lt_of_le h (Nat.le_trans (Nat.pow_le_pow_left (show 10 ≤ 2 ^ 4 by decide) 300) (by rw [← Nat.pow_mul]; exact Nat.pow_le_pow_right (by decide) (by decide)))
theorem cutI_le {a b : Int} : (cutI a b).natAbs ≤ a.natAbs := by
  unfold cutI
  rw [fdivN]
  have := Nat.div_le_self a.natAbs b.natAbs
  split
  · rw [Int.natAbs_natCast]; exact this
  · rw [Int.natAbs_neg, Int.natAbs_natCast]; exact this
theorem meet_MOD0 {x y most wd : Int} (w : Wide wd most) (hx : InB x most) (hy : InB y most) : Meet "MOD" 0 most wd [.int x, .int y] := by
  have hd := due_MOD 0 most x y (.int x) [.int y] (by decide) (by decide) (by simp) (mem2 plain0 plain0) rfl rfl (fun f => numI_size (hx.s60 w) (hy.s60 w))
  by_cases h0 : y = 0
  · subst h0
    exact ⟨_, .ref 279, _, hd, by decide +kernel, (rest_of_int_raise x wd [.int 0]).up (by decide), rfl, none_deep, fine_none⟩
  · have hs := hx.small w
    have hs2 := hy.small w
    have hc := (rest_of_int_ok x y wd [.int 0] h0 (log2_s hs2) (mulOk_of (Nat.lt_of_le_of_lt cutI_le (Nat.lt_of_lt_of_le hs (Nat.pow_le_pow_right (by decide) (by decide)))) (Nat.lt_of_lt_of_le hs2 (Nat.pow_le_pow_right (by decide) (by decide))))).up (k' := 9) (by decide)
    have e : dueI 0 (dg 0) most (numI "MOD" x y) = .int (x - cutI x y * y) := by
      rw [numI_MOD, if_neg (by simpa using h0), cut_rest h0]
      show orNone (lint _ most) = _
      rw [InB.lint]
      · rfl
      · have h1 := Nat.mod_lt x.natAbs (show 0 < y.natAbs by (clear hs2 hs; lia))
        have h2 := hy.1
        have h3 := hy.2
        have h4 := hx.1
        have h5 := hx.2
        have h6 := Nat.mod_le x.natAbs y.natAbs
        constructor <;> split <;> (first | lia | omega)
    rw [e] at hd
    exact ⟨_, .ref 279, _, hd, by decide +kernel, hc, rfl, some_deep rfl, fine_int _⟩
theorem under_size {x y : Int × Int} {d : Nat} (hx : Rl d x) (hy : Rl d y) : (underI x y).natAbs * 10 ^ (min x.2 y.2 + 3).toNat < 10 ^ 15 := by
  have := hx.lo
  have := hy.lo
  unfold underI
  rw [natAbs_mulpow, Nat.mul_assoc, ← Nat.pow_add]
  have e : (y.2 - min x.2 y.2).toNat + (min x.2 y.2 + 3).toNat = (y.2 + 3).toNat := by (clear this; lia)
  rw [e]
  exact hy.sz
theorem over_size {x y : Int × Int} {d : Nat} (hx : Rl d x) (hy : Rl d y) : (overI x y).natAbs * 10 ^ (min x.2 y.2 + 3).toNat < 10 ^ 15 := by
  have := hx.lo
  have := hy.lo
  unfold overI
  rw [natAbs_mulpow, Nat.mul_assoc, ← Nat.pow_add]
  have e : (x.2 - min x.2 y.2).toNat + (min x.2 y.2 + 3).toNat = (x.2 + 3).toNat := by (first | lia | omega)
  rw [e]
  exact hx.sz
theorem le_of_scaled {a k N : Nat} (h : a * 10 ^ k < N) : a < N := Nat.lt_of_le_of_lt (Nat.le_mul_of_pos_right _ (pow_pos10 _)) h
theorem meet_MODr {k most wd : Int} {x y : Int × Int} {d : Nat} (hk : k = 1 ∨ k = 2) (hx : Rl d x) (hy : Rl d y) : Meet "MOD" k most wd [tupD x, tupD y] := by
  have hd := due_MOD k most (FX x) (FX y) (tupD x) [tupD y] (by (first | lia | omega)) (by (first | lia | omega)) (by simp) (mem2 (plainR hk hx) (plainR hk hy)) (plD_R hk) (by show some (plD k (tupD y)) = _; rw [plD_R hk]) (fun f => numI_size hx.s60 hy.s60)
  by_cases h0 : y.1 = 0
  · have hc := (rest_of_real_raise x y k wd [.int k] hk h0).up (k' := 9) (by decide)
    have e : dueI k (dg k) most (numI "MOD" (FX x) (FX y)) = .none := by
      have : FX y = 0 := by unfold FX; rw [h0, Int.zero_mul]
      rw [numI_MOD, this]; rfl
    rw [e] at hd
    rcases hk with rfl | rfl
    · exact ⟨_, .ref 279, _, hd, by decide +kernel, hc, rfl, none_deep, fine_none⟩
    · exact ⟨_, .ref 279, _, hd, by decide +kernel, hc, rfl, none_deep, fine_none⟩
  · obtain ⟨f, hf, he⟩ := mod_real (d := dg k) hx.lo40 hy.lo40 h0
    have hu : underI x y ≠ 0 := Int.mul_ne_zero h0 (Int.ne_of_gt (pow10_pos _))
    have u1 := under_size hx hy
    have o1 := over_size hx hy
    have u2 := le_of_scaled u1
    have o2 := le_of_scaled o1
    have big : ∀ {a : Nat} {j : Nat}, 15 ≤ j → a < 10 ^ 15 → a < 10 ^ j := fun hj h => Nat.lt_of_lt_of_le h (Nat.pow_le_pow_right (by decide) hj)
    have hr : InR (overI x y - cutI (overI x y) (underI x y) * underI x y) (min x.2 y.2) := by
      have l1 := hx.lo
      have l2 := hy.lo
      refine InR.of6 (by (clear big o2 u2 o1 u1 hu he hf h0 hk; lia)) ?_
      have e : (min x.2 y.2 + 6).toNat = (min x.2 y.2 + 3).toNat + 3 := by (clear big o2 u2 o1 u1 hu he hf h0 hk; lia)
      have hm : (overI x y - cutI (overI x y) (underI x y) * underI x y).natAbs ≤ (underI x y).natAbs := by
        rw [cut_rest hu]
        have := Nat.mod_lt (overI x y).natAbs (show 0 < (underI x y).natAbs by (clear e l2 l1 big o2 u2 o1 u1 he hf h0 hk; lia))
        split <;> omega
      rw [e, Nat.pow_add, ← Nat.mul_assoc]
      exact Nat.lt_of_lt_of_le (Nat.mul_lt_mul_of_pos_right (Nat.lt_of_le_of_lt (Nat.mul_le_mul_right _ hm) u1) (by decide)) (by decide)
    have hc := (rest_of_real_ok x y k wd [.int k] hk hx.md hy.md h0 (log2_s (big (by decide) u2)) (mulOk_of (Nat.lt_of_le_of_lt cutI_le (big (by decide) o2)) (big (by decide) u2)) hr).up (k' := 9) (by decide)
    have e : dueI k (dg k) most (numI "MOD" (FX x) (FX y)) = tupD (roundD (overI x y - cutI (overI x y) (underI x y) * underI x y) (min x.2 y.2) (dg k)) := by
      rw [hf]
      show (if k == 0 then orNone (lint f most) else tupD (told f (dg k))) = _
      rw [if_neg (by simp; (first | lia | omega)), he]
    rw [e] at hd
    rcases hk with rfl | rfl
    · exact ⟨_, .ref 279, _, hd, by decide +kernel, hc, rfl, some_deep rfl, fine_tup _⟩
    · exact ⟨_, .ref 279, _, hd, by decide +kernel, hc, rfl, some_deep rfl, fine_tup _⟩
theorem meet_SIGN0 {x y most wd : Int} (w : Wide wd most) (hx : InB x most) (hy : InB y most) : Meet "SIGN" 0 most wd [.int x, .int y] := by
  have hd := due_SIGN 0 most x y (.int x) [.int y] (by decide) (by decide) (by simp) (mem2 plain0 plain0) rfl rfl (fun f => numI_size (hx.s60 w) (hy.s60 w))
  exact ⟨_, .ref 286, _, hd, by decide +kernel, (with_sign_int_ok x y wd [.int 0] [] (by have := w.lo; (first | lia | omega)) (by have := w.hi; (first | lia | omega))).up (by decide), fit_lint w.eq, optI_deep, fine_or _⟩
theorem meet_SIGNr {k most wd : Int} {x y : Int × Int} {d : Nat} (hk : k = 1 ∨ k = 2) (hx : Rl d x) (hy : Rl d y) (hdg : d = dg k) : Meet "SIGN" k most wd [tupD x, tupD y] := by
  have hd := due_SIGN k most (FX x) (FX y) (tupD x) [tupD y] (by (first | lia | omega)) (by (first | lia | omega)) (by simp) (mem2 (plainR hk hx) (plainR hk hy)) (plD_R hk) (by show some (plD k (tupD y)) = _; rw [plD_R hk]) (fun f => numI_size hx.s60 hy.s60)
  have hc := (with_sign_real_ok x y k wd [.int k] hk).up (k' := 9) (by decide)
  have e : dueI k (dg k) most (numI "SIGN" (FX x) (FX y)) = tupD ((if decide (y.1 ≥ 0) then (x.1.natAbs : Int) else -(x.1.natAbs : Int)), x.2) := by
    show (if k == 0 then orNone (lint _ most) else tupD (told (if decide (FX y ≥ 0) then ((FX x).natAbs : Int) else -((FX x).natAbs : Int)) (dg k))) = _
    rw [if_neg (by simp; (first | lia | omega)), FX_nonneg, sign_real hx.nf (rl_dg hx hdg) hx.lo40]
  rw [e] at hd
  rcases hk with rfl | rfl
  · exact ⟨_, .ref 286, _, hd, by decide +kernel, hc, rfl, some_deep rfl, fine_tup _⟩
  · exact ⟨_, .ref 286, _, hd, by decide +kernel, hc, rfl, some_deep rfl, fine_tup _⟩
end Mine
end
section
open PySem PySem.W PySem.Calls PyProof.Rows
set_option Elab.async false
set_option maxRecDepth 100000
set_option linter.unusedVariables false
set_option exponentiation.threshold 10000
namespace Mine
theorem meet_DIM0 {x y most wd : Int} (w : Wide wd most) (hx : InB x most) (hy : InB y most) : Meet "DIM" 0 most wd [.int x, .int y] := by
  have hd := due_DIM 0 most x y (.int x) [.int y] (by decide) (by decide) (by simp) (mem2 plain0 plain0) rfl rfl (fun f => numI_size (hx.s60 w) (hy.s60 w))
  have hc := (difference_int_ok x y wd [.int 0] (by have := w.lo; (first | lia | omega)) (by have := w.hi; (first | lia | omega))).up (k' := 9) (by decide)
  have hm := w.pos
  refine ⟨_, .ref 300, _, hd, by decide +kernel, hc, ?_, ?_, fine_or _⟩
  · rw [orderI_le]
    show _ = orNone (lint (max (x - y) 0) most)
    by_cases h : x ≤ y
    · have : max (x - y) 0 = 0 := by (first | lia | omega)
      rw [if_pos (by simpa using h), this, lint_in (by (first | lia | omega)) hm]
      rfl
    · have : max (x - y) 0 = x - y := by (first | lia | omega)
      rw [if_neg (by simpa using h), this]
      exact fit_lint w.eq
  · intro d h
    split at h
    · cases h; rfl
    · exact optDeep h
theorem near_of {x y : Int × Int} {d : Nat} (hx : Rl d x) (hy : Rl d y) : Near x y := hx.md.near hy.md
theorem meet_DIMr {k most wd : Int} {x y : Int × Int} {d : Nat} (hk : k = 1 ∨ k = 2) (hx : Rl d x) (hy : Rl d y) : Meet "DIM" k most wd [tupD x, tupD y] := by
  have hd := due_DIM k most (FX x) (FX y) (tupD x) [tupD y] (by (first | lia | omega)) (by (first | lia | omega)) (by simp) (mem2 (plainR hk hx) (plainR hk hy)) (plD_R hk) (by show some (plD k (tupD y)) = _; rw [plD_R hk]) (fun f => numI_size hx.s60 hy.s60)
  have hr : InR (addI x (-y.1, y.2)).1 (addI x (-y.1, y.2)).2 := by
    have l1 := hx.lo
    have l2 := hy.lo
    have h1 := over_size hx hy
    have h2 := under_size hx hy
    have hm : (addI x (-y.1, y.2)).1.natAbs ≤ (overI x y).natAbs + (underI x y).natAbs := by
      show (x.1 * 10 ^ (x.2 - min x.2 y.2).toNat + -y.1 * 10 ^ (y.2 - min x.2 y.2).toNat).natAbs ≤ (x.1 * 10 ^ (x.2 - min x.2 y.2).toNat).natAbs + (y.1 * 10 ^ (y.2 - min x.2 y.2).toNat).natAbs
      rw [Int.neg_mul]
      (clear h2 h1 l2 l1 hk; omega)
    show InR (addI x (-y.1, y.2)).1 (min x.2 y.2)
    refine InR.of6 (by (clear hm h2 h1 hk; lia)) ?_
    have e : (min x.2 y.2 + 6).toNat = (min x.2 y.2 + 3).toNat + 3 := by (clear hm h2 h1 hk; lia)
    rw [e, Nat.pow_add, ← Nat.mul_assoc]
    refine Nat.lt_of_lt_of_le (Nat.mul_lt_mul_of_pos_right (Nat.lt_of_le_of_lt (Nat.mul_le_mul_right _ hm) ?_) (by decide)) (show 10 ^ 16 * 10 ^ 3 ≤ 10 ^ 30 by decide)
    rw [Nat.add_mul]
    (clear e hm l2 l1 hk; omega)
  have hc := (difference_real_ok x y k wd [.int k] hk (near_of hx hy) hr).up (k' := 9) (by decide)
  have e : dueI k (dg k) most (numI "DIM" (FX x) (FX y)) = if decide (cmpI x y ≤ 0) then tupD (0, 0) else tupD (roundD (addI x (-y.1, y.2)).1 (addI x (-y.1, y.2)).2 (dg k)) := by
    show (if k == 0 then orNone (lint _ most) else tupD (told (max (FX x - FX y) 0) (dg k))) = _
    rw [if_neg (by simp; (first | lia | omega)), dim_real hx.lo40 hy.lo40]
    split <;> rfl
  rw [e] at hd
  have hdeep : ∀ d, some (if decide (cmpI x y ≤ 0) then tupD (0, 0) else tupD (roundD (addI x (-y.1, y.2)).1 (addI x (-y.1, y.2)).2 (dg k))) = some d → d.deep = true := some_deep (by split <;> rfl)
  have hfine : Fine (if decide (cmpI x y ≤ 0) then tupD (0, 0) else tupD (roundD (addI x (-y.1, y.2)).1 (addI x (-y.1, y.2)).2 (dg k))) := by split <;> exact fine_tup _
  rcases hk with rfl | rfl
  · exact ⟨_, .ref 300, _, hd, by decide +kernel, hc, rfl, hdeep, hfine⟩
  · exact ⟨_, .ref 300, _, hd, by decide +kernel, hc, rfl, hdeep, hfine⟩
theorem meet_DPROD {most wd : Int} {x y : Int × Int} {d : Nat} (hx : Rl d x) (hy : Rl d y) : Meet "DPROD" 1 most wd [tupD x, tupD y] := by
  have l1 := hx.lo
  have l2 := hy.lo
  have u1 := hx.hi
  have u2 := hy.hi
  have sx := hx.small
  have sy := hy.small
  have hsz : (x.1 * y.1).natAbs * 10 ^ (x.2 + y.2 + 6).toNat < 10 ^ 30 := by
    have e : (x.2 + y.2 + 6).toNat = (x.2 + 3).toNat + (y.2 + 3).toNat := by (first | lia | omega)
    have e2 : (x.1 * y.1).natAbs * 10 ^ (x.2 + y.2 + 6).toNat = (x.1.natAbs * 10 ^ (x.2 + 3).toNat) * (y.1.natAbs * 10 ^ (y.2 + 3).toNat) := by
      rw [Int.natAbs_mul, e, Nat.pow_add]
      generalize 10 ^ (x.2 + 3).toNat = p
      generalize 10 ^ (y.2 + 3).toNat = q
      rw [Nat.mul_assoc, Nat.mul_assoc, Nat.mul_left_comm y.1.natAbs p q]
    rw [e2]
    exact Nat.lt_of_lt_of_le (Nat.mul_lt_mul_of_lt_of_lt hx.sz hy.sz) (by decide)
  have hcd : cd (x.1 * y.1 * 10 ^ (40 + x.2 + y.2).toNat).natAbs ≤ 400 := by
    refine Nat.le_trans (cd_le_of (k := 64) ?_) (by decide)
    have e : (40 + x.2 + y.2).toNat = (x.2 + y.2 + 6).toNat + 34 := by (clear hsz sy sx u2 u1; lia)
    rw [natAbs_mulpow, e, Nat.pow_add, ← Nat.mul_assoc]
    exact Nat.lt_of_lt_of_le (Nat.mul_lt_mul_of_pos_right hsz (by decide)) (by decide)
  have big : ∀ {a : Nat} {j : Nat}, 15 ≤ j → a < 10 ^ 15 → a < 10 ^ j := fun hj h => Nat.lt_of_lt_of_le h (Nat.pow_le_pow_right (by decide) hj)
  have hd := due_DPROD 1 most x y (by decide) (by decide) (big (by decide) sx) (big (by decide) sy) (by (clear big hcd hsz sy sx u2 u1; lia)) (by (clear big hcd hsz sy sx l2 l1; lia)) hcd
  have e : told (x.1 * y.1 * 10 ^ (40 + x.2 + y.2).toNat) 9 = roundD (x.1 * y.1) (x.2 + y.2) 9 := by
    have := told_scale (m := x.1 * y.1) (e := x.2 + y.2) (d := 9) (by (first | lia | omega))
    rwa [show (x.2 + y.2 + 40).toNat = (40 + x.2 + y.2).toNat by (first | lia | omega)] at this
  rw [e] at hd
  exact ⟨_, .ref 307, _, hd, by decide +kernel, (double_product_ok x y _ wd (mulOk_of (big (by decide) sx) (big (by decide) sy)) (InR.of6 (by (first | lia | omega)) hsz)).up (by decide), rfl, some_deep rfl, fine_tup _⟩
theorem meet_AIMAG {most wd : Int} (x y : Int × Int) : Meet "AIMAG" 3 most wd [.tup [tupD x, tupD y]] :=
  ⟨_, .ref 363, _, due_AIMAG most x y [], by decide +kernel, (second_part_ok _ (tupD x) (tupD y) (.lim wd) [] rfl).up (by decide), rfl, some_deep rfl, fine_tup _⟩
theorem meet_CONJG {most wd : Int} (x y : Int × Int) : Meet "CONJG" 3 most wd [.tup [tupD x, tupD y]] :=
  ⟨_, .ref 370, _, due_CONJG most x y [], by decide +kernel, (conjugate_ok _ (.lim wd) x y []).up (by decide), rfl, some_deep rfl, fine_cpx _ _⟩
theorem meet_CHAR {n most wd : Int} : Meet "CHAR" 0 most wd [.int n] := by
  have hd := due_CHAR 0 n most [] (by decide) (by decide)
  unfold chrD at hd
  by_cases h : 0 ≤ n ∧ n < 256
  · have e : (decide (0 ≤ n) && decide (n < 256)) = true := by simpa using h
    rw [e] at hd
    exact ⟨_, .ref 391, _, hd, by decide +kernel, (sign_of_code_ok n _ (.lim wd) [] h.1 h.2).up (by decide), rfl, some_deep rfl, fine_chr n h.2⟩
  · have e : (decide (0 ≤ n) && decide (n < 256)) = false := by
      rw [Bool.eq_false_iff]
      simpa using h
    rw [e] at hd
    exact ⟨_, .ref 391, _, hd, by decide +kernel, (sign_of_code_raise n _ (.lim wd) [] (by (clear e; lia))).up (by decide), rfl, none_deep, fine_none⟩
theorem meet_LEN {x : Str} {most wd : Int} (hx : x.length < 100) : Meet "LEN" 5 most wd [.str x] :=
  ⟨_, .ref 398, _, due_text_ok "LEN" most x [] _ rfl (law_text_len_ok x [] hx), by decide +kernel, (length_of_ok x _ (.lim wd) [] hx).up (by decide), rfl, some_deep rfl, fine_int _⟩
theorem meet_ICHAR {x : Str} {most wd : Int} (hx : x.length < 100) : Meet "ICHAR" 5 most wd [.str x] := by
  have h0 := law_text_ichar_ok x [] hx
  by_cases h : x.length = 1
  · have e : ((x.length : Int) == 1) = true := by rw [h]; rfl
    rw [e] at h0
    exact ⟨_, .ref 384, _, due_text_ok "ICHAR" most x [] _ rfl h0, by decide +kernel, (code_of_ok x _ (.lim wd) [] h).up (by decide), rfl, some_deep rfl, fine_int _⟩
  · have e : ((x.length : Int) == 1) = false := by
      rw [beq_eq_false_iff_ne]
      (first | lia | omega)
    rw [e] at h0
    exact ⟨_, .ref 384, _, due_text_ok "ICHAR" most x [] _ rfl h0, by decide +kernel, (code_of_raise x _ (.lim wd) [] h hx).up (by decide), rfl, none_deep, fine_none⟩
theorem meet_INDEX {x y : Str} {most wd : Int} (hx : x.length < 100) (hy : y.length < 100) : Meet "INDEX" 5 most wd [.str x, .str y] := by
  have hc := (place_of_text_ok x y (.lst [.int 5, .int 5]) (.lim wd) []).up (k' := 9) (by decide)
  rw [spotI_find] at hc
  exact ⟨_, .ref 405, _, due_text_ok "INDEX" most x [.str y] _ rfl (law_text_index_ok x y hx hy), by decide +kernel, hc, rfl, some_deep rfl, fine_int _⟩
theorem meet_LGE {x y : Str} {most wd : Int} (hx : x.length < 100) (hy : y.length < 100) : Meet "LGE" 5 most wd [.str x, .str y] := by
  have hc := (is_not_below_ok x y (.lst [.int 5, .int 5]) (.lim wd) [] (by (first | lia | omega)) (by (first | lia | omega))).up (k' := 9) (by decide)
  rw [(coll_lex x y).1] at hc
  exact ⟨_, .ref 412, _, due_text_ok "LGE" most x [.str y] _ rfl (law_text_cmp_ok x y "LGE" _ (by (first | lia | omega)) (by (first | lia | omega)) rfl), by decide +kernel, hc, rfl, some_deep rfl, fine_bool _⟩
theorem meet_LGT {x y : Str} {most wd : Int} (hx : x.length < 100) (hy : y.length < 100) : Meet "LGT" 5 most wd [.str x, .str y] := by
  have hc := (is_above_ok x y (.lst [.int 5, .int 5]) (.lim wd) [] (by (first | lia | omega)) (by (first | lia | omega))).up (k' := 9) (by decide)
  rw [(coll_lex x y).2.1] at hc
  exact ⟨_, .ref 419, _, due_text_ok "LGT" most x [.str y] _ rfl (law_text_cmp_ok x y "LGT" _ (by (first | lia | omega)) (by (first | lia | omega)) rfl), by decide +kernel, hc, rfl, some_deep rfl, fine_bool _⟩
theorem meet_LLE {x y : Str} {most wd : Int} (hx : x.length < 100) (hy : y.length < 100) : Meet "LLE" 5 most wd [.str x, .str y] := by
  have hc := (is_not_above_ok x y (.lst [.int 5, .int 5]) (.lim wd) [] (by (first | lia | omega)) (by (first | lia | omega))).up (k' := 9) (by decide)
  rw [(coll_lex x y).2.2.1] at hc
  exact ⟨_, .ref 426, _, due_text_ok "LLE" most x [.str y] _ rfl (law_text_cmp_ok x y "LLE" _ (by (first | lia | omega)) (by (first | lia | omega)) rfl), by decide +kernel, hc, rfl, some_deep rfl, fine_bool _⟩
theorem meet_LLT {x y : Str} {most wd : Int} (hx : x.length < 100) (hy : y.length < 100) : Meet "LLT" 5 most wd [.str x, .str y] := by
  have hc := (is_below_ok x y (.lst [.int 5, .int 5]) (.lim wd) [] (by (first | lia | omega)) (by (first | lia | omega))).up (k' := 9) (by decide)
  rw [(coll_lex x y).2.2.2] at hc
  exact ⟨_, .ref 433, _, due_text_ok "LLT" most x [.str y] _ rfl (law_text_cmp_ok x y "LLT" _ (by (first | lia | omega)) (by (first | lia | omega)) rfl), by decide +kernel, hc, rfl, some_deep rfl, fine_bool _⟩
end Mine
end
section
open PySem PySem.W PySem.Calls PyProof.Rows
set_option Elab.async false
set_option maxRecDepth 100000
set_option linter.unusedVariables false
set_option exponentiation.threshold 10000
namespace Mine
noncomputable
def keyI (k : Int) (d : D) : Int := match plD k d with
  | .int n => n
  | _ => 0
noncomputable
def GoodV (k : Int) (dg : Nat) (d : D) : Prop := (k = 0 ∧ ∃ n, d = .int n) ∨ ((k = 1 ∨ k = 2) ∧ ∃ x, d = tupD x ∧ Rl dg x)
theorem keyI_int (n : Int) : keyI 0 (.int n) = n := rfl
theorem keyI_real {k : Int} {x : Int × Int} (hk : k = 1 ∨ k = 2) : keyI k (tupD x) = FX x := by
  unfold keyI; rw [plD_R hk]
theorem goodV_deep {k : Int} {dg : Nat} {d : D} (h : GoodV k dg d) : d.deep = true := by
  rcases h with ⟨_, n, rfl⟩ | ⟨_, x, rfl, _⟩ <;> rfl
theorem ext_both {k : Int} {dgt : Nat} {v : D} {rest : List D} (h2 : 2 ≤ (v :: rest).length) (h4 : (v :: rest).length ≤ 4) (hg : ∀ d ∈ v :: rest, GoodV k dgt d) (hX : Bool) (nm : Str) (hn : hasX nm = hX) :
    ∃ d ∈ v :: rest, CallOk 4 (.ref 314) [.int k, .lst (v :: rest), .int (if hX then 1 else -1)] (some d) ∧ CallOk 3 (.ref 516) [.str nm, .lst (v :: rest), .int k] (some d) := by
  have hdeep : D.deepAll (v :: rest) = true := by
    have : ∀ l : List D, (∀ d ∈ l, GoodV k dgt d) → D.deepAll l = true := by
      intro l
      induction l with
      | nil => intro _; rfl
      | cons d l ih =>
        intro h
        simp only [D.deepAll, Bool.and_eq_true]
        exact ⟨goodV_deep (h d (.head _)), ih fun e he => h e (.tail _ he)⟩
    exact this _ hg
  have hc : ∀ a ∈ v :: rest, ∀ b ∈ v :: rest, CallOk 3 (.ref 293) [.int k, a, b] (some (.int (orderI (keyI k a) (keyI k b)))) := by
    intro a ha b hb
    rcases hg a ha with ⟨rfl, n, rfl⟩ | ⟨hk, x, rfl, hx⟩
    · rcases hg b hb with ⟨_, m, rfl⟩ | ⟨hk, _⟩
      · exact compare_int_ok n m
      · (first | lia | omega)
    · rcases hg b hb with ⟨h0, _⟩ | ⟨_, y, rfl, hy⟩
      · (first | lia | omega)
      · rw [keyI_real hk, keyI_real hk, ← cmpI_FX hx.lo40 hy.lo40]
        exact compare_real_ok x y k hk (near_of hx hy)
  have inj : ∀ a ∈ v :: rest, ∀ b ∈ v :: rest, keyI k a = keyI k b → a = b := by
    intro a ha b hb h
    rcases hg a ha with ⟨rfl, n, rfl⟩ | ⟨hk, x, rfl, hx⟩
    · rcases hg b hb with ⟨_, m, rfl⟩ | ⟨hk, _⟩
      · exact congrArg D.int h
      · (first | lia | omega)
    · rcases hg b hb with ⟨h0, _⟩ | ⟨_, y, rfl, hy⟩
      · (first | lia | omega)
      · rw [keyI_real hk, keyI_real hk] at h
        rw [FX_inj hx.nf hy.nf hx.lo40 hy.lo40 h]
  have hl : (v :: rest).length = ((v :: rest).map (keyI k)).length := (List.length_map _).symm
  have hlaw := law_extreme_ok nm k (v :: rest) ((v :: rest).map (keyI k)) hl (by rw [← hl]; exact h2) (by rw [← hl]; exact h4) hdeep (fun i d hd => by
    have hm : d ∈ v :: rest := List.mem_of_getElem? hd
    have hk' : ((v :: rest).map (keyI k)).getD i 0 = keyI k d := by
      rw [List.getD_eq_getElem?_getD, List.getElem?_map, hd]; rfl
    rw [hk']
    rcases hg d hm with ⟨rfl, n, rfl⟩ | ⟨hk, x, rfl, hx⟩
    · exact .inl ⟨rfl, rfl⟩
    · rw [keyI_real hk]
      exact .inr ⟨by (first | lia | omega), law_fixed_ok x hx.md hx.lo40⟩) hX hn
  obtain ⟨e1, e2⟩ := ext_sort (K := keyI k) h2 h4 inj
  have mem : ∀ o, extI (fun a b => orderI (keyI k a) (keyI k b)) o v (v :: rest) ∈ v :: rest := fun o => by
    rcases extI_mem (fun a b => orderI (keyI k a) (keyI k b)) o (v :: rest) v with h | h
    · rw [h]; exact .head _
    · exact h
  have hcode := fun o => extreme_ok k o (fun a b => orderI (keyI k a) (keyI k b)) v rest (fun d hd => goodV_deep (hg d hd)) hc
  cases hX with
  | true =>
    refine ⟨_, mem 1, hcode 1, ?_⟩
    rw [e1]
    exact hlaw
  | false =>
    refine ⟨_, mem (-1), hcode (-1), ?_⟩
    rw [e2]
    exact hlaw
theorem goodV_fine {k : Int} {dg : Nat} {d : D} (h : GoodV k dg d) : Fine d := by
  rcases h with ⟨_, n, rfl⟩ | ⟨_, x, rfl, _⟩
  · exact fine_int _
  · exact fine_tup _
theorem k012 {k : Int} {dg : Nat} {d : D} (h : GoodV k dg d) : k = 0 ∨ k = 1 ∨ k = 2 := by
  rcases h with ⟨h, _⟩ | ⟨h, _⟩ <;> (first | lia | omega)
theorem meet_MAX {k most wd : Int} {dgt : Nat} {v : D} {rest : List D} (h2 : 2 ≤ (v :: rest).length) (h4 : (v :: rest).length ≤ 4) (hg : ∀ d ∈ v :: rest, GoodV k dgt d) : Meet "MAX" k most wd (v :: rest) := by
  obtain ⟨d, hm, c1, c2⟩ := ext_both h2 h4 hg true "MAX" (by decide +kernel)
  have hk := k012 (hg v (.head _))
  have hdd := goodV_deep (hg d hm)
  have hd := due_MAX k most v rest d (by (first | lia | omega)) (by (first | lia | omega)) hdd c2
  have hc := (greatest_c k (List.replicate rest.length (.int k)) (.lst (v :: rest)) (.lim wd) d hdd c1).up (k' := 9) (by decide)
  rcases hk with rfl | rfl | rfl
  all_goals exact ⟨_, .ref 321, _, hd, by decide +kernel, hc, rfl, some_deep hdd, goodV_fine (hg d hm)⟩
theorem meet_MIN {k most wd : Int} {dgt : Nat} {v : D} {rest : List D} (h2 : 2 ≤ (v :: rest).length) (h4 : (v :: rest).length ≤ 4) (hg : ∀ d ∈ v :: rest, GoodV k dgt d) : Meet "MIN" k most wd (v :: rest) := by
  obtain ⟨d, hm, c1, c2⟩ := ext_both h2 h4 hg false "MIN" (by decide +kernel)
  have hk := k012 (hg v (.head _))
  have hdd := goodV_deep (hg d hm)
  have hd := due_MIN k most v rest d (by (first | lia | omega)) (by (first | lia | omega)) hdd c2
  have hc := (least_c k (List.replicate rest.length (.int k)) (.lst (v :: rest)) (.lim wd) d hdd c1).up (k' := 9) (by decide)
  rcases hk with rfl | rfl | rfl
  all_goals exact ⟨_, .ref 328, _, hd, by decide +kernel, hc, rfl, some_deep hdd, goodV_fine (hg d hm)⟩
theorem meet_AMAX0 {most wd : Int} {v : D} {rest : List D} (w : Wide wd most) (h2 : 2 ≤ (v :: rest).length) (h4 : (v :: rest).length ≤ 4) (hg : ∀ d ∈ v :: rest, ∃ n, d = .int n ∧ InB n most) : Meet "AMAX0" 0 most wd (v :: rest) := by
  obtain ⟨d, hm, c1, c2⟩ := ext_both (k := 0) (dgt := 0) h2 h4 (fun d hd => let ⟨n, h, _⟩ := hg d hd; .inl ⟨rfl, n, h⟩) true "AMAX0" (by decide +kernel)
  obtain ⟨n, rfl, hn⟩ := hg d hm
  have hd := due_AMAX0 0 most n v rest (by decide) (by decide) (hn.small w) c2
  rw [told_int] at hd
  exact ⟨_, .ref 335, _, hd, by decide +kernel, (greatest_as_real_c n wd _ _ (hn.inR w) c1).up (by decide), rfl, some_deep rfl, fine_tup _⟩
theorem meet_AMIN0 {most wd : Int} {v : D} {rest : List D} (w : Wide wd most) (h2 : 2 ≤ (v :: rest).length) (h4 : (v :: rest).length ≤ 4) (hg : ∀ d ∈ v :: rest, ∃ n, d = .int n ∧ InB n most) : Meet "AMIN0" 0 most wd (v :: rest) := by
  obtain ⟨d, hm, c1, c2⟩ := ext_both (k := 0) (dgt := 0) h2 h4 (fun d hd => let ⟨n, h, _⟩ := hg d hd; .inl ⟨rfl, n, h⟩) false "AMIN0" (by decide +kernel)
  obtain ⟨n, rfl, hn⟩ := hg d hm
  have hd := due_AMIN0 0 most n v rest (by decide) (by decide) (hn.small w) c2
  rw [told_int] at hd
  exact ⟨_, .ref 342, _, hd, by decide +kernel, (least_as_real_c n wd _ _ (hn.inR w) c1).up (by decide), rfl, some_deep rfl, fine_tup _⟩
theorem meet_MAX1 {most wd : Int} {dgt : Nat} {v : D} {rest : List D} (w : Wide wd most) (h2 : 2 ≤ (v :: rest).length) (h4 : (v :: rest).length ≤ 4) (hg : ∀ d ∈ v :: rest, ∃ x, d = tupD x ∧ Rl dgt x) : Meet "MAX1" 1 most wd (v :: rest) := by
  obtain ⟨d, hm, c1, c2⟩ := ext_both (k := 1) (dgt := dgt) h2 h4 (fun d hd => let ⟨x, h, hx⟩ := hg d hd; .inr ⟨.inl rfl, x, h, hx⟩) true "MAX1" (by decide +kernel)
  obtain ⟨x, rfl, hx⟩ := hg d hm
  have hd := due_MAX1 1 most x v rest (by decide) (by decide) hx.md hx.lo40 c2
  rw [toI_whole hx.lo40] at hd
  exact ⟨_, .ref 349, _, hd, by decide +kernel, (greatest_as_int_c x wd _ _ hx.md (by have := w.lo; (first | lia | omega)) (by have := w.hi; (first | lia | omega)) c1).up (by decide), fit_lint w.eq, optI_deep, fine_or _⟩
theorem meet_MIN1 {most wd : Int} {dgt : Nat} {v : D} {rest : List D} (w : Wide wd most) (h2 : 2 ≤ (v :: rest).length) (h4 : (v :: rest).length ≤ 4) (hg : ∀ d ∈ v :: rest, ∃ x, d = tupD x ∧ Rl dgt x) : Meet "MIN1" 1 most wd (v :: rest) := by
  obtain ⟨d, hm, c1, c2⟩ := ext_both (k := 1) (dgt := dgt) h2 h4 (fun d hd => let ⟨x, h, hx⟩ := hg d hd; .inr ⟨.inl rfl, x, h, hx⟩) false "MIN1" (by decide +kernel)
  obtain ⟨x, rfl, hx⟩ := hg d hm
  have hd := due_MIN1 1 most x v rest (by decide) (by decide) hx.md hx.lo40 c2
  rw [toI_whole hx.lo40] at hd
  exact ⟨_, .ref 356, _, hd, by decide +kernel, (least_as_int_c x wd _ _ hx.md (by have := w.lo; (first | lia | omega)) (by have := w.hi; (first | lia | omega)) c1).up (by decide), fit_lint w.eq, optI_deep, fine_or _⟩
end Mine
end
section
open PySem PySem.W PySem.Calls PyProof.Rows
set_option Elab.async false
set_option maxRecDepth 100000
set_option linter.unusedVariables false
set_option exponentiation.threshold 10000
namespace Mine
/-- what the law draws -/
noncomputable
def VOk (k most : Int) (v : D) : Prop :=
  (k = 0 ∧ ∃ n, v = .int n ∧ InB n most) ∨ ((k = 1 ∨ k = 2) ∧ ∃ x, v = tupD x ∧ Rl (dg k) x) ∨ (k = 3 ∧ ∃ x y, v = .tup [tupD x, tupD y] ∧ Rl 4 x ∧ Rl 4 y) ∨ (k = 5 ∧ ∃ x, v = .str x ∧ x.length < 100)
theorem VOk.i {most : Int} {v : D} (h : VOk 0 most v) : ∃ n, v = .int n ∧ InB n most := by
  rcases h with ⟨_, h⟩ | ⟨h, _⟩ | ⟨h, _⟩ | ⟨h, _⟩
  · exact h
  all_goals (first | lia | omega)
theorem VOk.r {k most : Int} {v : D} (hk : k = 1 ∨ k = 2) (h : VOk k most v) : ∃ x, v = tupD x ∧ Rl (dg k) x := by
  rcases h with ⟨h, _⟩ | ⟨_, h⟩ | ⟨h, _⟩ | ⟨h, _⟩
  · (first | lia | omega)
  · exact h
  all_goals omega
theorem VOk.c {most : Int} {v : D} (h : VOk 3 most v) : ∃ x y, v = .tup [tupD x, tupD y] ∧ Rl 4 x ∧ Rl 4 y := by
  rcases h with ⟨h, _⟩ | ⟨h, _⟩ | ⟨_, h⟩ | ⟨h, _⟩
  · (first | lia | omega)
  · (first | lia | omega)
  · exact h
  · (first | lia | omega)
theorem VOk.t {most : Int} {v : D} (h : VOk 5 most v) : ∃ x, v = .str x ∧ x.length < 100 := by
  rcases h with ⟨h, _⟩ | ⟨h, _⟩ | ⟨h, _⟩ | ⟨_, h⟩
  · (first | lia | omega)
  · (first | lia | omega)
  · (first | lia | omega)
  · exact h
theorem VOk.good {k most : Int} {v : D} (hk : k = 0 ∨ k = 1 ∨ k = 2) (h : VOk k most v) : GoodV k (dg k) v := by
  rcases hk with rfl | hk
  · obtain ⟨n, rfl, _⟩ := h.i
    exact .inl ⟨rfl, n, rfl⟩
  · obtain ⟨x, rfl, hx⟩ := h.r hk
    exact .inr ⟨hk, x, rfl, hx⟩
noncomputable
def CntOk (nm : Str) (cnt kind : Int) (c : Nat) : Prop := if nm == "CMPLX" then (if kind = 3 then c = 1 else c = 1 ∨ c = 2) else if cnt = 3 then 2 ≤ c ∧ c ≤ 4 else (c : Int) = cnt
noncomputable
def RowMeets (nm : Str) (ks : List Int) (cnt : Int) : Prop := ∀ (kind most wd : Int) (vs : List D), Wide wd most → kind ∈ ks → CntOk nm cnt kind vs.length → (∀ v ∈ vs, VOk kind most v) → Meet nm kind most wd vs
theorem cnt_plain {nm : Str} {cnt kind : Int} {c : Nat} (h : CntOk nm cnt kind c) (h1 : (nm == "CMPLX") = false) (h2 : cnt ≠ 3) : (c : Int) = cnt := by
  unfold CntOk at h
  rw [h1, if_neg (by decide), if_neg h2] at h
  exact h
theorem cnt_many {nm : Str} {kind : Int} {c : Nat} (h : CntOk nm 3 kind c) (h1 : (nm == "CMPLX") = false) : 2 ≤ c ∧ c ≤ 4 := by
  unfold CntOk at h
  rw [h1, if_neg (by decide), if_pos rfl] at h
  exact h
theorem k3 {k : Int} {a b c : Int} (h : k ∈ [a, b, c]) : k = a ∨ k = b ∨ k = c := by simpa using h
theorem k4 {k : Int} {a b c d : Int} (h : k ∈ [a, b, c, d]) : k = a ∨ k = b ∨ k = c ∨ k = d := by simpa using h
theorem k2 {k : Int} {a b : Int} (h : k ∈ [a, b]) : k = a ∨ k = b := by simpa using h
theorem k1 {k : Int} {a : Int} (h : k ∈ [a]) : k = a := by simpa using h
theorem cons_of {vs : List D} (h : 2 ≤ vs.length) : ∃ v r, vs = v :: r := by
  cases vs with
  | nil => simp at h
  | cons v r => exact ⟨v, r, rfl⟩
theorem row_INT : RowMeets "INT" [0, 1, 2, 3] 1 := by
  intro kind most wd vs w hk hc hv
  obtain ⟨v, rfl⟩ := len1 (show vs.length = 1 by have := cnt_plain hc (by decide +kernel) (by decide); (first | lia | omega))
  have h1 := hv v (.head _)
  rcases k4 hk with rfl | rfl | rfl | rfl
  · obtain ⟨n, rfl, hn⟩ := h1.i
    exact meet_INT0 w hn
  · obtain ⟨x, rfl, hx⟩ := h1.r (.inl rfl)
    exact meet_INTr w (.inl rfl) hx
  · obtain ⟨x, rfl, hx⟩ := h1.r (.inr rfl)
    exact meet_INTr w (.inr rfl) hx
  · obtain ⟨x, y, rfl, hx, hy⟩ := h1.c
    exact meet_INT3 w hx
theorem row_REAL : RowMeets "REAL" [0, 1, 2, 3] 1 := by
  intro kind most wd vs w hk hc hv
  obtain ⟨v, rfl⟩ := len1 (show vs.length = 1 by have := cnt_plain hc (by decide +kernel) (by decide); (first | lia | omega))
  have h1 := hv v (.head _)
  rcases k4 hk with rfl | rfl | rfl | rfl
  · obtain ⟨n, rfl, hn⟩ := h1.i
    exact meet_REAL0 w hn
  · obtain ⟨x, rfl, hx⟩ := h1.r (.inl rfl)
    exact meet_REALr (.inl rfl) hx
  · obtain ⟨x, rfl, hx⟩ := h1.r (.inr rfl)
    exact meet_REALr (.inr rfl) hx
  · obtain ⟨x, y, rfl, hx, hy⟩ := h1.c
    exact meet_REAL3 hx
theorem row_DBLE : RowMeets "DBLE" [0, 1, 2, 3] 1 := by
  intro kind most wd vs w hk hc hv
  obtain ⟨v, rfl⟩ := len1 (show vs.length = 1 by have := cnt_plain hc (by decide +kernel) (by decide); (first | lia | omega))
  have h1 := hv v (.head _)
  rcases k4 hk with rfl | rfl | rfl | rfl
  · obtain ⟨n, rfl, hn⟩ := h1.i
    exact meet_DBLE0 w hn
  · obtain ⟨x, rfl, hx⟩ := h1.r (.inl rfl)
    exact meet_DBLEr (.inl rfl) hx
  · obtain ⟨x, rfl, hx⟩ := h1.r (.inr rfl)
    exact meet_DBLEr (.inr rfl) hx
  · obtain ⟨x, y, rfl, hx, hy⟩ := h1.c
    exact meet_DBLE3 hx
theorem row_CMPLX : RowMeets "CMPLX" [1, 1, 3] 2 := by
  intro kind most wd vs w hk hc hv
  unfold CntOk at hc
  rw [if_pos (by decide +kernel)] at hc
  have hk' : kind = 1 ∨ kind = 3 := by rcases k3 hk with h | h | h <;> (first | lia | omega)
  rcases hk' with rfl | rfl
  · rw [if_neg (by decide)] at hc
    rcases hc with hc | hc
    · obtain ⟨v, rfl⟩ := len1 hc
      obtain ⟨x, rfl, hx⟩ := (hv v (.head _)).r (.inl rfl)
      exact meet_CMPLX1 x
    · obtain ⟨v, u, rfl⟩ := len2 hc
      obtain ⟨x, rfl, hx⟩ := (hv v (.head _)).r (.inl rfl)
      obtain ⟨y, rfl, hy⟩ := (hv u (.tail _ (.head _))).r (.inl rfl)
      exact meet_CMPLX2 x y
  · rw [if_pos rfl] at hc
    obtain ⟨v, rfl⟩ := len1 hc
    obtain ⟨x, y, rfl, hx, hy⟩ := (hv v (.head _)).c
    exact meet_CMPLX3 x y
theorem row_AINT : RowMeets "AINT" [1, 2] 1 := by
  intro kind most wd vs w hk hc hv
  obtain ⟨v, rfl⟩ := len1 (show vs.length = 1 by have := cnt_plain hc (by decide +kernel) (by decide); (first | lia | omega))
  have h1 := hv v (.head _)
  obtain ⟨x, rfl, hx⟩ := h1.r (k2 hk)
  exact meet_AINT (k2 hk) hx
theorem row_ANINT : RowMeets "ANINT" [1, 2] 1 := by
  intro kind most wd vs w hk hc hv
  obtain ⟨v, rfl⟩ := len1 (show vs.length = 1 by have := cnt_plain hc (by decide +kernel) (by decide); (first | lia | omega))
  have h1 := hv v (.head _)
  obtain ⟨x, rfl, hx⟩ := h1.r (k2 hk)
  exact meet_ANINT (k2 hk) hx
theorem row_ABS : RowMeets "ABS" [0, 1, 2] 1 := by
  intro kind most wd vs w hk hc hv
  obtain ⟨v, rfl⟩ := len1 (show vs.length = 1 by have := cnt_plain hc (by decide +kernel) (by decide); (first | lia | omega))
  have h1 := hv v (.head _)
  rcases k3 hk with rfl | rfl | rfl
  · obtain ⟨n, rfl, hn⟩ := h1.i
    exact meet_ABS0 w hn
  · obtain ⟨x, rfl, hx⟩ := h1.r (.inl rfl)
    exact meet_ABSr (.inl rfl) hx rfl
  · obtain ⟨x, rfl, hx⟩ := h1.r (.inr rfl)
    exact meet_ABSr (.inr rfl) hx rfl
theorem row_MOD : RowMeets "MOD" [0, 1, 2] 2 := by
  intro kind most wd vs w hk hc hv
  obtain ⟨v, u, rfl⟩ := len2 (show vs.length = 2 by have := cnt_plain hc (by decide +kernel) (by decide); (first | lia | omega))
  have h1 := hv v (.head _)
  have h2 := hv u (.tail _ (.head _))
  rcases k3 hk with rfl | rfl | rfl
  · obtain ⟨n, rfl, hn⟩ := h1.i
    obtain ⟨m, rfl, hm⟩ := h2.i
    exact meet_MOD0 w hn hm
  · obtain ⟨x, rfl, hx⟩ := h1.r (.inl rfl)
    obtain ⟨y, rfl, hy⟩ := h2.r (.inl rfl)
    exact meet_MODr (.inl rfl) hx hy
  · obtain ⟨x, rfl, hx⟩ := h1.r (.inr rfl)
    obtain ⟨y, rfl, hy⟩ := h2.r (.inr rfl)
    exact meet_MODr (.inr rfl) hx hy
theorem row_SIGN : RowMeets "SIGN" [0, 1, 2] 2 := by
  intro kind most wd vs w hk hc hv
  obtain ⟨v, u, rfl⟩ := len2 (show vs.length = 2 by have := cnt_plain hc (by decide +kernel) (by decide); (first | lia | omega))
  have h1 := hv v (.head _)
  have h2 := hv u (.tail _ (.head _))
  rcases k3 hk with rfl | rfl | rfl
  · obtain ⟨n, rfl, hn⟩ := h1.i
    obtain ⟨m, rfl, hm⟩ := h2.i
    exact meet_SIGN0 w hn hm
  · obtain ⟨x, rfl, hx⟩ := h1.r (.inl rfl)
    obtain ⟨y, rfl, hy⟩ := h2.r (.inl rfl)
    exact meet_SIGNr (.inl rfl) hx hy rfl
  · obtain ⟨x, rfl, hx⟩ := h1.r (.inr rfl)
    obtain ⟨y, rfl, hy⟩ := h2.r (.inr rfl)
    exact meet_SIGNr (.inr rfl) hx hy rfl
theorem row_NINT : RowMeets "NINT" [1, 2] 1 := by
  intro kind most wd vs w hk hc hv
  obtain ⟨v, rfl⟩ := len1 (show vs.length = 1 by have := cnt_plain hc (by decide +kernel) (by decide); (first | lia | omega))
  have h1 := hv v (.head _)
  obtain ⟨x, rfl, hx⟩ := h1.r (k2 hk)
  exact meet_NINT w (k2 hk) hx
theorem row_DIM : RowMeets "DIM" [0, 1, 2] 2 := by
  intro kind most wd vs w hk hc hv
  obtain ⟨v, u, rfl⟩ := len2 (show vs.length = 2 by have := cnt_plain hc (by decide +kernel) (by decide); (first | lia | omega))
  have h1 := hv v (.head _)
  have h2 := hv u (.tail _ (.head _))
  rcases k3 hk with rfl | rfl | rfl
  · obtain ⟨n, rfl, hn⟩ := h1.i
    obtain ⟨m, rfl, hm⟩ := h2.i
    exact meet_DIM0 w hn hm
  · obtain ⟨x, rfl, hx⟩ := h1.r (.inl rfl)
    obtain ⟨y, rfl, hy⟩ := h2.r (.inl rfl)
    exact meet_DIMr (.inl rfl) hx hy
  · obtain ⟨x, rfl, hx⟩ := h1.r (.inr rfl)
    obtain ⟨y, rfl, hy⟩ := h2.r (.inr rfl)
    exact meet_DIMr (.inr rfl) hx hy
theorem row_DPROD : RowMeets "DPROD" [1] 2 := by
  intro kind most wd vs w hk hc hv
  obtain ⟨v, u, rfl⟩ := len2 (show vs.length = 2 by have := cnt_plain hc (by decide +kernel) (by decide); (first | lia | omega))
  have h1 := hv v (.head _)
  have h2 := hv u (.tail _ (.head _))
  obtain rfl := k1 hk
  obtain ⟨x, rfl, hx⟩ := h1.r (.inl rfl)
  obtain ⟨y, rfl, hy⟩ := h2.r (.inl rfl)
  exact meet_DPROD hx hy
theorem row_MAX : RowMeets "MAX" [0, 1, 2] 3 := by
  intro kind most wd vs w hk hc hv
  obtain ⟨l2, l4⟩ := cnt_many hc (by decide +kernel)
  obtain ⟨v, r, rfl⟩ := cons_of l2
  exact meet_MAX l2 l4 (fun d hd => (hv d hd).good (k3 hk))
theorem row_MIN : RowMeets "MIN" [0, 1, 2] 3 := by
  intro kind most wd vs w hk hc hv
  obtain ⟨l2, l4⟩ := cnt_many hc (by decide +kernel)
  obtain ⟨v, r, rfl⟩ := cons_of l2
  exact meet_MIN l2 l4 (fun d hd => (hv d hd).good (k3 hk))
theorem row_AMAX0 : RowMeets "AMAX0" [0] 3 := by
  intro kind most wd vs w hk hc hv
  obtain ⟨l2, l4⟩ := cnt_many hc (by decide +kernel)
  obtain ⟨v, r, rfl⟩ := cons_of l2
  obtain rfl := k1 hk
  exact meet_AMAX0 w l2 l4 (fun d hd => (hv d hd).i)
theorem row_AMIN0 : RowMeets "AMIN0" [0] 3 := by
  intro kind most wd vs w hk hc hv
  obtain ⟨l2, l4⟩ := cnt_many hc (by decide +kernel)
  obtain ⟨v, r, rfl⟩ := cons_of l2
  obtain rfl := k1 hk
  exact meet_AMIN0 w l2 l4 (fun d hd => (hv d hd).i)
theorem row_MAX1 : RowMeets "MAX1" [1] 3 := by
  intro kind most wd vs w hk hc hv
  obtain ⟨l2, l4⟩ := cnt_many hc (by decide +kernel)
  obtain ⟨v, r, rfl⟩ := cons_of l2
  obtain rfl := k1 hk
  exact meet_MAX1 w l2 l4 (fun d hd => (hv d hd).r (.inl rfl))
theorem row_MIN1 : RowMeets "MIN1" [1] 3 := by
  intro kind most wd vs w hk hc hv
  obtain ⟨l2, l4⟩ := cnt_many hc (by decide +kernel)
  obtain ⟨v, r, rfl⟩ := cons_of l2
  obtain rfl := k1 hk
  exact meet_MIN1 w l2 l4 (fun d hd => (hv d hd).r (.inl rfl))
theorem row_AIMAG : RowMeets "AIMAG" [3] 1 := by
  intro kind most wd vs w hk hc hv
  obtain ⟨v, rfl⟩ := len1 (show vs.length = 1 by have := cnt_plain hc (by decide +kernel) (by decide); (first | lia | omega))
  have h1 := hv v (.head _)
  obtain rfl := k1 hk
  obtain ⟨x, y, rfl, hx, hy⟩ := h1.c
  exact meet_AIMAG x y
theorem row_CONJG : RowMeets "CONJG" [3] 1 := by
  intro kind most wd vs w hk hc hv
  obtain ⟨v, rfl⟩ := len1 (show vs.length = 1 by have := cnt_plain hc (by decide +kernel) (by decide); (first | lia | omega))
  have h1 := hv v (.head _)
  obtain rfl := k1 hk
  obtain ⟨x, y, rfl, hx, hy⟩ := h1.c
  exact meet_CONJG x y
theorem row_ICHAR : RowMeets "ICHAR" [5] 1 := by
  intro kind most wd vs w hk hc hv
  obtain ⟨v, rfl⟩ := len1 (show vs.length = 1 by have := cnt_plain hc (by decide +kernel) (by decide); (first | lia | omega))
  have h1 := hv v (.head _)
  obtain rfl := k1 hk
  obtain ⟨x, rfl, hx⟩ := h1.t
  exact meet_ICHAR hx
theorem row_CHAR : RowMeets "CHAR" [0] 1 := by
  intro kind most wd vs w hk hc hv
  obtain ⟨v, rfl⟩ := len1 (show vs.length = 1 by have := cnt_plain hc (by decide +kernel) (by decide); (first | lia | omega))
  have h1 := hv v (.head _)
  obtain rfl := k1 hk
  obtain ⟨n, rfl, hn⟩ := h1.i
  exact meet_CHAR
theorem row_LEN : RowMeets "LEN" [5] 1 := by
  intro kind most wd vs w hk hc hv
  obtain ⟨v, rfl⟩ := len1 (show vs.length = 1 by have := cnt_plain hc (by decide +kernel) (by decide); (first | lia | omega))
  have h1 := hv v (.head _)
  obtain rfl := k1 hk
  obtain ⟨x, rfl, hx⟩ := h1.t
  exact meet_LEN hx
theorem row_INDEX : RowMeets "INDEX" [5] 2 := by
  intro kind most wd vs w hk hc hv
  obtain ⟨v, u, rfl⟩ := len2 (show vs.length = 2 by have := cnt_plain hc (by decide +kernel) (by decide); (first | lia | omega))
  have h1 := hv v (.head _)
  have h2 := hv u (.tail _ (.head _))
  obtain rfl := k1 hk
  obtain ⟨x, rfl, hx⟩ := h1.t
  obtain ⟨y, rfl, hy⟩ := h2.t
  exact meet_INDEX hx hy
theorem row_LGE : RowMeets "LGE" [5] 2 := by
  intro kind most wd vs w hk hc hv
  obtain ⟨v, u, rfl⟩ := len2 (show vs.length = 2 by have := cnt_plain hc (by decide +kernel) (by decide); (first | lia | omega))
  have h1 := hv v (.head _)
  have h2 := hv u (.tail _ (.head _))
  obtain rfl := k1 hk
  obtain ⟨x, rfl, hx⟩ := h1.t
  obtain ⟨y, rfl, hy⟩ := h2.t
  exact meet_LGE hx hy
theorem row_LGT : RowMeets "LGT" [5] 2 := by
  intro kind most wd vs w hk hc hv
  obtain ⟨v, u, rfl⟩ := len2 (show vs.length = 2 by have := cnt_plain hc (by decide +kernel) (by decide); (first | lia | omega))
  have h1 := hv v (.head _)
  have h2 := hv u (.tail _ (.head _))
  obtain rfl := k1 hk
  obtain ⟨x, rfl, hx⟩ := h1.t
  obtain ⟨y, rfl, hy⟩ := h2.t
  exact meet_LGT hx hy
theorem row_LLE : RowMeets "LLE" [5] 2 := by
  intro kind most wd vs w hk hc hv
  obtain ⟨v, u, rfl⟩ := len2 (show vs.length = 2 by have := cnt_plain hc (by decide +kernel) (by decide); (first | lia | omega))
  have h1 := hv v (.head _)
  have h2 := hv u (.tail _ (.head _))
  obtain rfl := k1 hk
  obtain ⟨x, rfl, hx⟩ := h1.t
  obtain ⟨y, rfl, hy⟩ := h2.t
  exact meet_LLE hx hy
theorem row_LLT : RowMeets "LLT" [5] 2 := by
  intro kind most wd vs w hk hc hv
  obtain ⟨v, u, rfl⟩ := len2 (show vs.length = 2 by have := cnt_plain hc (by decide +kernel) (by decide); (first | lia | omega))
  have h1 := hv v (.head _)
  have h2 := hv u (.tail _ (.head _))
  obtain rfl := k1 hk
  obtain ⟨x, rfl, hx⟩ := h1.t
  obtain ⟨y, rfl, hy⟩ := h2.t
  exact meet_LLT hx hy
theorem rows_meet : ∀ r ∈ rowT, RowMeets r.1 r.2.1 r.2.2 := by
  intro r hr
  unfold rowT at hr
  rcases List.mem_cons.mp hr with rfl | hr
  · exact row_INT
  rcases List.mem_cons.mp hr with rfl | hr
  · exact row_REAL
  rcases List.mem_cons.mp hr with rfl | hr
  · exact row_DBLE
  rcases List.mem_cons.mp hr with rfl | hr
  · exact row_CMPLX
  rcases List.mem_cons.mp hr with rfl | hr
  · exact row_AINT
  rcases List.mem_cons.mp hr with rfl | hr
  · exact row_ANINT
  rcases List.mem_cons.mp hr with rfl | hr
  · exact row_ABS
  rcases List.mem_cons.mp hr with rfl | hr
  · exact row_MOD
  rcases List.mem_cons.mp hr with rfl | hr
  · exact row_SIGN
  rcases List.mem_cons.mp hr with rfl | hr
  · exact row_NINT
  rcases List.mem_cons.mp hr with rfl | hr
  · exact row_DIM
  rcases List.mem_cons.mp hr with rfl | hr
  · exact row_DPROD
  rcases List.mem_cons.mp hr with rfl | hr
  · exact row_MAX
  rcases List.mem_cons.mp hr with rfl | hr
  · exact row_MIN
  rcases List.mem_cons.mp hr with rfl | hr
  · exact row_AMAX0
  rcases List.mem_cons.mp hr with rfl | hr
  · exact row_AMIN0
  rcases List.mem_cons.mp hr with rfl | hr
  · exact row_MAX1
  rcases List.mem_cons.mp hr with rfl | hr
  · exact row_MIN1
  rcases List.mem_cons.mp hr with rfl | hr
  · exact row_AIMAG
  rcases List.mem_cons.mp hr with rfl | hr
  · exact row_CONJG
  rcases List.mem_cons.mp hr with rfl | hr
  · exact row_ICHAR
  rcases List.mem_cons.mp hr with rfl | hr
  · exact row_CHAR
  rcases List.mem_cons.mp hr with rfl | hr
  · exact row_LEN
  rcases List.mem_cons.mp hr with rfl | hr
  · exact row_INDEX
  rcases List.mem_cons.mp hr with rfl | hr
  · exact row_LGE
  rcases List.mem_cons.mp hr with rfl | hr
  · exact row_LGT
  rcases List.mem_cons.mp hr with rfl | hr
  · exact row_LLE
  rcases List.mem_cons.mp hr with rfl | hr
  · exact row_LLT
  simp at hr
end Mine
end
section
open PySem PySem.W PySem.Calls PyProof.Rows
set_option Elab.async false
set_option maxRecDepth 100000
set_option linter.unusedVariables false
set_option exponentiation.threshold 10000
namespace Mine
theorem strip_rl {m e : Int} {d : Nat} (hd : cd m.natAbs ≤ d) (he : -3 ≤ e) (he2 : e ≤ 2) (hm : m.natAbs < 10 ^ 9) : Rl d (strip m e) ∧ (strip m e).1.natAbs * 10 ^ ((strip m e).2 + 3).toNat < 10 ^ 14 := by
  by_cases h0 : m = 0
  · subst h0
    rw [strip_zero]
    exact ⟨⟨.inl rfl, by rw [show ((0, 0) : Int × Int).1.natAbs = 0 from rfl, cd_zero]; exact Nat.zero_le d, by decide, by decide, by decide +kernel⟩, by decide +kernel⟩
  · obtain ⟨a, j, h1, h2, h3⟩ := strip_of (e := e) h0
    have hj : 10 ^ j ≤ m.natAbs := by
      rw [h2, natAbs_mulpow]
      have : a ≠ 0 := fun q => by rw [q] at h3; exact h3 rfl
      exact Nat.le_mul_of_pos_left _ (by (first | lia | omega))
    have hj9 : j < 9 := pow_lt (Nat.lt_of_le_of_lt hj hm)
    have ha : a.natAbs ≤ m.natAbs := by
      rw [h2, natAbs_mulpow]
      exact Nat.le_mul_of_pos_right _ (pow_pos10 _)
    have hsz : a.natAbs * 10 ^ (e + j + 3).toNat < 10 ^ 14 := by
      have e1 : (e + j + 3).toNat = j + (e + 3).toNat := by (first | lia | omega)
      have e2 : (e + 3).toNat ≤ 5 := by (clear e1 ha hj9 hj h3 h2 h1 h0 hm he hd; lia)
      rw [e1, Nat.pow_add, ← Nat.mul_assoc, ← natAbs_mulpow, ← h2]
      exact Nat.lt_of_lt_of_le (Nat.mul_lt_mul_of_lt_of_le hm (Nat.pow_le_pow_right (by decide) e2) (by decide)) (by decide)
    rw [h1]
    refine ⟨⟨.inr h3, Nat.le_trans (cd_mono ha) hd, by show -3 ≤ e + j; (first | lia | omega), by show e + j ≤ 12; (first | lia | omega), ?_⟩, hsz⟩
    exact Nat.lt_of_lt_of_le hsz (by decide)
theorem v1I_strip (k n : Int) : v1I k n = strip (vsI k n) (veI n) := by
  have hv := veI_rng n
  unfold v1I
  have := told_scale (m := vsI k n) (e := veI n) (d := 9) (by (first | lia | omega))
  rw [show (veI n + 40).toNat = (40 + veI n).toNat by (first | lia | omega)] at this
  rw [this, roundD_small (cd_le_of (vsI_rng k n))]
theorem raw_rl (k n : Int) : Rl 9 (v1I k n) ∧ (v1I k n).1.natAbs * 10 ^ ((v1I k n).2 + 3).toNat < 10 ^ 14 := by
  rw [v1I_strip]
  exact strip_rl (cd_le_of (vsI_rng k n)) (veI_rng n).1 (veI_rng n).2 (vsI_rng k n)
theorem told4_rl {x : Int × Int} (h : Rl 9 x) (hz : x.1.natAbs * 10 ^ (x.2 + 3).toNat < 10 ^ 14) : Rl 4 (told (FX x) 4) := by
  rw [told_FX h.lo40]
  by_cases h0 : x.1 = 0
  · rw [h0, roundD_zero]
    exact ⟨.inl rfl, by decide +kernel, by decide, by decide, by decide +kernel⟩
  · obtain ⟨r1, r2, r3, r4, r5⟩ := roundD_spec (e := x.2) (d := 4) h0 (by decide)
    have hlo := h.lo
    have hn : x.1.natAbs ≠ 0 := by (clear hlo r5 r4 r3 r2 r1 hz; lia)
    have hc := cd_le_of hz
    rw [cd_mulpow hn] at hc
    generalize roundD x.1 x.2 4 = r at r1 r2 r3 r4 r5 ⊢
    have hr0 : r.1.natAbs ≠ 0 := fun q => by
      have : r.1 = 0 := by (clear r5 r4 r3 r2 r1 hc hn hlo h0 hz; lia)
      rw [this] at r1; exact r1 rfl
    have hp := cd_pos hr0
    refine ⟨.inr r1, r2, by (first | lia | omega), by (clear hp hr0 r4 r3 r2 r1 hn hlo h0 hz; lia), ?_⟩
    have h1 := lt_cd r.1.natAbs
    have h3 : cd r.1.natAbs + (r.2 + 3).toNat ≤ 15 := by (clear h1 hp hr0 r4 r3 r1 hn hlo h0 hz; lia)
    refine Nat.lt_of_lt_of_le (Nat.mul_lt_mul_of_pos_right h1 (pow_pos10 _)) ?_
    rw [← Nat.pow_add]
    exact Nat.pow_le_pow_right (by decide) h3
theorem v0I_rng {n most : Int} (h : 32 ≤ most) : InB (v0I n most) most := by
  unfold v0I
  split
  · have key : ∀ k : Nat, InB ([-most, most - 1, -1, 0, 1].getD k 0) most := fun k =>
      getD_all (P := fun i => InB i most) (fun i hi => by
        have : i = -most ∨ i = most - 1 ∨ i = -1 ∨ i = 0 ∨ i = 1 := by simpa using hi
        constructor <;> rcases this with rfl | rfl | rfl | rfl | rfl <;> (first | lia | omega)) (by constructor <;> (first | lia | omega)) k
    exact key _
  · have := fmod_rng (n := n) (m := 2 * most) (by (first | lia | omega))
    constructor <;> omega
/-- a value as it is drawn, and as it is handed in -/
noncomputable
def rawD (k most n : Int) : D := if k = 0 then .int (v0I n most) else if k = 3 then .tup [tupD (v1I 1 (n.fdiv 3)), tupD (v1I 1 (n.fdiv 7 + 5))] else if k = 5 then .str ⟨(textL n).toArray⟩ else tupD (v1I k n)
noncomputable
def keptD (k most n : Int) : D := if k = 1 then tupD (told (FX (v1I 1 n)) 4) else rawD k most n
noncomputable
def valD (k most n : Int) : D := if k = 3 then .tup [tupD (told (FX (v1I 1 (n.fdiv 3))) 4), tupD (told (FX (v1I 1 (n.fdiv 7 + 5))) 4)] else keptD k most n
noncomputable
def KindOk (k : Int) : Prop := k = 0 ∨ k = 1 ∨ k = 2 ∨ k = 3 ∨ k = 5
theorem valD_ok {k most n : Int} (hk : KindOk k) (h : 32 ≤ most) : VOk k most (valD k most n) := by
  rcases hk with rfl | rfl | rfl | rfl | rfl
  · exact .inl ⟨rfl, _, rfl, v0I_rng h⟩
  · exact .inr (.inl ⟨.inl rfl, _, rfl, told4_rl (raw_rl 1 n).1 (raw_rl 1 n).2⟩)
  · exact .inr (.inl ⟨.inr rfl, _, rfl, (raw_rl 2 n).1⟩)
  · exact .inr (.inr (.inl ⟨rfl, _, _, rfl, told4_rl (raw_rl 1 _).1 (raw_rl 1 _).2, told4_rl (raw_rl 1 _).1 (raw_rl 1 _).2⟩))
  · refine .inr (.inr (.inr ⟨rfl, _, rfl, ?_⟩))
    show (textL n).toArray.size < 100
    rw [List.size_toArray]
    have := textL_len n
    (first | lia | omega)
theorem law_value_ok {k most : Int} (n : Int) (hk : KindOk k) (h : 32 ≤ most) : CallOk 3 (.ref 487) [.int k, .int n, .int most] (some (rawD k most n)) := by
  rcases hk with rfl | rfl | rfl | rfl | rfl
  · exact (law_value_int_ok n most (by (first | lia | omega))).up (by decide)
  · exact (law_value_real_ok 1 n most (.inl rfl)).up (by decide)
  · exact (law_value_real_ok 2 n most (.inr rfl)).up (by decide)
  · exact law_value_cpx_ok n most
  · exact (law_value_text_ok n most).up (by decide)
end Mine
end
section
open PySem PySem.W PySem.Calls PyProof.Rows
set_option Elab.async false
set_option maxRecDepth 100000
set_option linter.unusedVariables false
namespace Mine
section
theorem sgn_lt (n : Int) (k : Nat) : sgnI n k < 256 := by
  unfold sgnI
  generalize ((n.fdiv (4 ^ k)).fmod 4).toNat = j
  match j with
  | 0 => decide
  | 1 => decide
  | 2 => decide
  | 3 => decide
  | j + 4 => simp
theorem text_ok (n : Int) : PyData.strOk ⟨(textL n).toArray⟩ = true := by
  unfold PyData.strOk textL
  simp
  intro x hx
  have := sgn_lt n x
  lia
/-- plain data of small depth -/
noncomputable
def Thin (d : D) : Prop := d.deep = true ∧ d.data = true ∧ d.py.depth ≤ 2
theorem thin_int (n : Int) : Thin (.int n) := ⟨rfl, rfl, Nat.zero_le _⟩
theorem thin_tup (x : Int × Int) : Thin (tupD x) := ⟨rfl, rfl, by simp [tupD, D.py, D.pyAll, PyData.depth, PyData.depthAll]⟩
theorem thin_cpx (x y : Int × Int) : Thin (.tup [tupD x, tupD y]) := ⟨rfl, rfl, by simp [tupD, D.py, D.pyAll, PyData.depth, PyData.depthAll]⟩
theorem thin_text (n : Int) : Thin (.str ⟨(textL n).toArray⟩) := ⟨rfl, text_ok n, Nat.zero_le _⟩
theorem valD_thin (k most n : Int) : Thin (valD k most n) := by
  unfold valD keptD rawD
  split
  · exact thin_cpx _ _
  · split
    · exact thin_tup _
    · split
      · exact thin_int _
      · split
        · exact thin_text _
        · exact thin_tup _
theorem thin_list : ∀ {vs : List D}, (∀ v ∈ vs, Thin v) → D.deepAll vs = true ∧ D.dataAll vs = true ∧ PyData.depthAll (D.pyAll vs) ≤ 2
  | [], _ => ⟨rfl, rfl, Nat.zero_le _⟩
  | v :: vs, h => by
    obtain ⟨a, b, c⟩ := thin_list (fun x hx => h x (.tail _ hx))
    obtain ⟨a', b', c'⟩ := h v (.head _)
    refine ⟨by simp [D.deepAll, a, a'], by simp [D.dataAll, b, b'], ?_⟩
    simp only [D.pyAll, PyData.depthAll]
    lia
theorem fine_list {vs : List D} (h : ∀ v ∈ vs, Thin v) : Fine (.lst vs) := by
  obtain ⟨a, b, c⟩ := thin_list h
  refine ⟨a, b, ?_⟩
  simp only [D.py, PyData.depth]
  lia
end
section
noncomputable
def LawGo : Prop := ∀ params body scope ps, P0.main.body[85]? = some (PySem.Stmt.FunctionDef "law" params body [] none [] scope none "law" ps) → ∀ (c : Cx) (is : List Int), c.n = 12 → c.ns = scope.names → c.comp = false → c.outer = [] → is.length ≤ 63 →
  Exs c [("script", .lst (is.map D.int))] body (.ret (.bool true))
theorem LawGo.mk {params : Arguments} {body : List Stmt} {scope : Scope} {ps : Pos} (hst : P0.main.body[85]? = some (PySem.Stmt.FunctionDef "law" params body [] none [] scope none "law" ps))
    (h : ∀ (c : Cx) (is : List Int), c.n = 12 → c.ns = scope.names → c.comp = false → c.outer = [] → is.length ≤ 63 → Exs c [("script", .lst (is.map D.int))] body (.ret (.bool true))) : LawGo := by
  intro params' body' scope' ps' hst' c is h1 h2 h3 h4 h5
  rw [hst] at hst'
  cases hst'
  exact h c is h1 h2 h3 h4 h5
noncomputable
abbrev loopEnv (w : World) (is : List Int) : List (Str × D) := [("table", .tab (TabAt w theT)), ("numbers", .tab (IntsAt is))]
theorem ev_num {c : Cx} {ρ : List (Str × D)} {e : Expr} {is : List Int} {k : Int} {p q : Pos} {ns : List (Str × NameKind)} (hs : c.ns = ns) (hk : ns.lookup (Str.ofString "numbers") = some .local) (hl : ρ.lookup (Str.ofString "numbers") = some (.tab (IntsAt is))) (he : Ev c ρ e (some (.int k))) (h0 : 0 ≤ k) (h1 : k < is.length) (hz : is.length ≤ 100)
    (hs2 : autoParam (∀ o u, subscripted e false (.ref o) (.int k u) = operate [.ref o, .int k u] (getItem (.ref o) (.int k u))) aiIwu) : Ev c ρ (.Subscript (.Name "numbers" p) e q) (some (.int (is.getD k.toNat 0))) :=
  Ev.idxInts (Ev.tabLst (Ev.loc hs hk hl)) he h0 h1 (by (first | lia | omega)) hs2
noncomputable
def RowFact (r : Str × List Int × Int) : Bool := decide (0 < r.2.1.length) && decide (r.2.1.length ≤ 4) && r.2.1.all (fun k => k == 0 || k == 1 || k == 2 || k == 3 || k == 5) && (r.2.2 == 1 || r.2.2 == 2 || r.2.2 == 3) && decide (r.1.length ≤ 100)
theorem row_facts : rowT.all RowFact = true := by decide +kernel
theorem wide_eq {k : Int} (h : 0 ≤ k) : (32 : Int) * 2 ^ k.toNat = 2 ^ (6 + k - 1).toNat := by
  rw [show (6 + k - 1).toNat = 5 + k.toNat by (first | lia | omega), Int.pow_add]; rfl
noncomputable
abbrev turnEnv (w : World) (is : List Int) (kind most : Int) (nm : Str) (cnt at_ : Int) : List (Str × D) := [("kind", .int kind), ("most", .int most), ("name", .str nm), ("count", .int cnt), ("at", .int at_), ("table", .tab (TabAt w theT)), ("numbers", .tab (IntsAt is))]
noncomputable
def c1I (cnt n1 : Int) : Int := if cnt == 3 then 2 + (n1.fdiv 8).fmod 3 else cnt
noncomputable
def c2I (nm : Str) (kind cnt n1 : Int) : Int := if nm == "CMPLX" then (if kind == 3 then 1 else 1 + (n1.fdiv 8).fmod 2) else c1I cnt n1
noncomputable
def takesFirst (i : Nat) (n1 : Int) : Bool := decide ((i : Int) > 0) && (((n1.fdiv 64).fmod 3 == 0) && (((i : Int).fmod 3 == 1) && true))
noncomputable
def baseI (is : List Int) (at_ n1 : Int) (i : Nat) : Int := if takesFirst i n1 then is.getD (at_ + 2).toNat 0 else is.getD (at_ + 2 + (i : Int).fmod 3).toNat 0
noncomputable
def drawI (is : List Int) (at_ n1 : Int) (i : Nat) : Int := baseI is at_ n1 i + (i : Int).fdiv 3
theorem c2_ok {nm : Str} {kind cnt n1 : Int} (h : (cnt == 1 || cnt == 2 || cnt == 3) = true) : CntOk nm cnt kind (c2I nm kind cnt n1).toNat ∧ 1 ≤ c2I nm kind cnt n1 ∧ c2I nm kind cnt n1 ≤ 4 := by
  have h' : cnt = 1 ∨ cnt = 2 ∨ cnt = 3 := by simpa [or_assoc] using h
  have q2 := fmod_rng (n := n1.fdiv 8) (m := 2) (by decide)
  have q3 := fmod_rng (n := n1.fdiv 8) (m := 3) (by decide)
  unfold CntOk c2I c1I
  by_cases hn : (nm == "CMPLX") = true
  · rw [if_pos hn, if_pos hn]
    by_cases hk : kind = 3
    · rw [if_pos hk, if_pos (by simpa using hk)]; exact ⟨rfl, by decide, by decide⟩
    · rw [if_neg hk, if_neg (by simpa using hk)]; exact ⟨by omega, by omega, by omega⟩
  · rw [if_neg hn, if_neg hn]
    by_cases hk : cnt = 3
    · rw [if_pos hk, if_pos (by simpa using hk)]; exact ⟨by omega, by omega, by omega⟩
    · rw [if_neg hk, if_neg (by simpa using hk)]; exact ⟨by (first | (clear hk hn q3 q2 h; lia) | lia | omega), by (first | (clear hk hn q3 q2 h; lia) | lia | omega), by (first | (clear hk hn q3 q2 h; lia) | lia | omega)⟩
theorem rawD_noLst (k most n : Int) : (rawD k most n).noLst = true := by
  unfold rawD
  split
  · rfl
  · split
    · rfl
    · split
      · rfl
      · rfl
theorem keptD_noLst (k most n : Int) : (keptD k most n).noLst = true := by
  unfold keptD
  split
  · rfl
  · exact rawD_noLst k most n
noncomputable
def partD : D → D
  | .tup [.int m, .int e] => tupD (told (FX (m, e)) 4)
  | d => d
noncomputable
def partsD : D → D
  | .tup ds => .tup (ds.map partD)
  | d => d
noncomputable
abbrev PCons (g : Heap) (d : D) (P : Heap → List Value → Prop) : Heap → List Value → Prop := fun h vs => ∃ v vs', vs = v :: vs' ∧ Rd g h v d ∧ P h vs'
theorem law_go : LawGo := by
  refine LawGo.mk rfl (fun c is hn hs hcm hout hl => ?_)
  let nums : List Int := is.take 20 ++ [9, 0, 24, 0, 5]
  have hnl : nums.length = min 20 is.length + 5 := by simp [nums]
  refine Exs.assign (d := .lst (nums.map D.int)) ?hnum (by assumption) rfl ?_
  case hnum =>
    have e : nums.map D.int = (is.map D.int).take ((20 : Nat) : Int).toNat ++ [.int 9, .int 0, .int 24, .int 0, .int 5] := by
      simp [nums, List.map_take]
    rw [e]
    refine Ev.bin (Ev.slL (n := 20) ?_ ?_ ?_) (Ev.lst (Evs.cons Ev.int (Evs.cons Ev.int (Evs.cons Ev.int (Evs.cons Ev.int (Evs.cons Ev.int Evs.nil))))) (by rw [sizeLine_eq]; simp)) (bin_addL (by rw [sizeLine_eq]; simp; lia))
    · exact Ev.loc (by assumption) rfl rfl
    · exact Ev.int
    · rw [List.length_map, sizeLine_eq]; lia
  refine Exs.tables (nb := Str.ofString "numbers") (is := nums) (acc := numT) (more := txtT) (by assumption) hcm rfl rfl rfl rfl ?_ ?_ ?_ ?_ ?_ ?_ ?_ rfl rfl rfl (e_number_operations (by assumption) rfl) num_ops_ok (by (first | lia | omega)) (fun T => e_text_operations (by assumption) rfl) txt_ops_ok (by (first | lia | omega)) numT_nodup (by decide) rfl rfl ?_ (fun c' hn' hs' hw' hcm' hout' => ?_)
  any_goals (first | decide +kernel | done)
  case refine_8 => exact fun x hx => nocell_lookup (by decide +kernel) hx
  · have hz : (nums.map D.int).length < 2 ^ 62 := by rw [List.length_map, hnl]; lia
    refine Exs.forR (ρf := fun _ => loopEnv c.w nums) (RangeEv.three (a := 0) (b := (nums.length : Int) - 4) (st := 5) (n := nums.length / 5) (e_range (by assumption) rfl) Ev.int ?hb Ev.int ?hn ?_ ?_ (by decide) ?_) (by assumption) rfl ⟨rfl, rfl, trivial⟩ (fun i hi => ?hturn) ?hret
    case hb =>
      refine Ev.cast (Ev.bin (a := .int ((nums.map D.int).length : Nat)) (b := .int 4) (Ev.call (e_len (by assumption) rfl) (Evs.cons (d := .lst (nums.map D.int)) ?_ Evs.nil) (len_lst_ok hz) (Nat.zero_le _)) Ev.int bin_sub) (by rw [List.length_map])
      exact Ev.tabLst (Ev.loc (by assumption) rfl rfl)
    case hret => exact Exs.retd Ev.bool rfl
    case hn =>
      unfold Builtin.Range.rangeSize
      rw [if_pos (by decide), if_pos (by rw [hnl]; lia)]
      (first | (clear hz hout' hcm' hw' hs' hn' hnl hl hout hcm hs hn; lia) | lia | omega)
    · lia
    · lia
    · lia
    case hturn =>
      refine ⟨loopEnv c.w nums, ?_, ⟨rfl, rfl, trivial⟩⟩
      have h0 : 0 ≤ (0 : Int) + (i : Int) * 5 := by (first | lia | omega)
      have h5 : (0 : Int) + (i : Int) * 5 + 5 ≤ (nums.length : Int) := by (first | (clear h0 hz hout' hcm' hw' hs' hn' hnl hl hout hcm hs hn; lia) | lia | omega)
      generalize (0 : Int) + (i : Int) * 5 = at_ at h0 h5
      have hz100 : nums.length ≤ 100 := by (first | lia | omega)
      rw [← hw']
      -- the row
      have q1 := fmod_rng (n := nums.getD at_.toNat 0) (m := 28) (by decide)
      obtain ⟨r, hr⟩ : ∃ r, rowT[((nums.getD at_.toNat 0).fmod 28).toNat]? = some r := ⟨_, List.getElem?_eq_getElem (show _ < rowT.length by show _ < 28; (first | (clear hz100 h5 h0 hi hz hout' hcm' hw' hs' hn' hnl hl hout hcm hs hn; omega) | lia | omega))⟩
      have hrm : r ∈ rowT := List.mem_of_getElem? hr
      have hrf := List.all_eq_true.mp row_facts r hrm
      unfold RowFact at hrf
      simp only [Bool.and_eq_true, decide_eq_true_eq] at hrf
      obtain ⟨⟨⟨⟨f1, f2⟩, f3⟩, f4⟩, f5⟩ := hrf
      refine Exs.tup3 (d1 := .str r.1) (d2 := .tup (r.2.1.map D.int)) (d3 := .int r.2.2) ?_ (by assumption) rfl rfl rfl ?_
      · refine Ev.idxL (ds := rowT.map rowD) (k := (nums.getD at_.toNat 0).fmod 28) (Ev.call (e_law_rows (by assumption) rfl) Evs.nil law_rows_ok (by (first | lia | omega))) (Ev.bin (ev_num (by assumption) rfl rfl (Ev.loc (by assumption) rfl rfl) h0 (by (first | (clear f2 f1 f3 f4 f5 hr q1 hz100 h0 hi hz hout' hcm' hw' hs' hn' hnl hl hout hcm hs hn; lia) | lia | omega)) hz100) Ev.int (bin_mod (by decide))) q1.1 (by (first | (clear f2 f1 f3 f4 f5 hr hz100 h5 h0 hi hz hout' hcm' hw' hs' hn' hnl hl hout hcm hs hn; omega) | lia | omega)) ?_
        rw [List.getElem?_map, hr]; rfl
      obtain ⟨N0, hN0⟩ : ∃ z, nums.getD at_.toNat 0 = z := ⟨_, rfl⟩
      obtain ⟨N1, hN1⟩ : ∃ z, nums.getD (at_ + 1).toNat 0 = z := ⟨_, rfl⟩
      have n0 : ∀ {ρ : List (Str × D)} {e : Expr} {p q : Pos}, ρ.lookup (Str.ofString "numbers") = some (.tab (IntsAt nums)) → Ev c' ρ e (some (.int at_)) → (∀ o u, subscripted e false (.ref o) (.int at_ u) = operate [.ref o, .int at_ u] (getItem (.ref o) (.int at_ u))) → Ev c' ρ (.Subscript (.Name "numbers" p) e q) (some (.int N0)) := fun hl he hs2 => Ev.cast (ev_num (by assumption) rfl hl he h0 (by (first | lia | omega)) hz100 hs2) (by rw [hN0])
      have n1 : ∀ {ρ : List (Str × D)} {e : Expr} {p q : Pos}, ρ.lookup (Str.ofString "numbers") = some (.tab (IntsAt nums)) → Ev c' ρ e (some (.int (at_ + 1))) → (∀ o u, subscripted e false (.ref o) (.int (at_ + 1) u) = operate [.ref o, .int (at_ + 1) u] (getItem (.ref o) (.int (at_ + 1) u))) → Ev c' ρ (.Subscript (.Name "numbers" p) e q) (some (.int N1)) := fun hl he hs2 => Ev.cast (ev_num (by assumption) rfl hl he (by (first | lia | omega)) (by (first | (clear hs2 hl n0 hN1 hN0 f2 f1 f3 f4 f5 hr q1 hz100 h0 hi hz hout' hcm' hw' hs' hn' hnl hl hout hcm hs hn; lia) | lia | omega)) hz100 hs2) (by rw [hN1])
      have q2 := fmod_rng (n := N0.fdiv 28) (m := (r.2.1.length : Int)) (by (first | lia | omega))
      obtain ⟨kind, hkd⟩ : ∃ k, r.2.1[((N0.fdiv 28).fmod (r.2.1.length : Int)).toNat]? = some k := ⟨_, List.getElem?_eq_getElem (show _ < r.2.1.length by (first | (clear n1 n0 hN1 hN0 f2 f1 f3 f4 f5 hr q1 hz100 h5 h0 hi hz hout' hcm' hw' hs' hn' hnl hl hout hcm hs hn; omega) | lia | omega))⟩
      have hkm : kind ∈ r.2.1 := List.mem_of_getElem? hkd
      have q3 := fmod_rng (n := N1) (m := 8) (by decide)
      obtain ⟨most, hmost⟩ : ∃ z, (32 : Int) * 2 ^ (N1.fmod 8).toNat = z := ⟨_, rfl⟩
      refine Exs.swap2 (d1 := .int kind) (d2 := .int most) (Evs.cons ?_ (Evs.cons ?_ Evs.nil)) (by assumption) rfl rfl (fun env h1 h2 h3 => swapped2 h1 h2 h3 rfl (by decide +kernel) rfl rfl rfl) ?_
      · refine Ev.idx (s := .tup (r.2.1.map D.int)) (k := (N0.fdiv 28).fmod (r.2.1.length : Int)) (j := ((N0.fdiv 28).fmod (r.2.1.length : Int)).toNat) (Ev.loc (by assumption) rfl rfl) (Ev.bin (Ev.bin (n0 rfl (Ev.loc (by assumption) rfl rfl) (by intros; with_unfolding_all rfl)) Ev.int (bin_div (by decide) (by decide))) (Ev.cast (Ev.call (e_len (by assumption) rfl) (Evs.cons (d := .tup (r.2.1.map D.int)) (Ev.loc (by assumption) rfl rfl) Evs.nil) (len_tup_ok (by rw [List.length_map]; lia)) (Nat.zero_le _)) (by rw [List.length_map])) (bin_mod (by (first | lia | omega)))) (by (first | (clear hmost q3 hkd n1 n0 hN1 hN0 f2 f1 f3 f4 f5 hr q1 hz100 h5 h0 hi hz hout' hcm' hw' hs' hn' hnl hl hout hcm hs hn; omega) | lia | omega)) (by (first | (clear hmost q3 hkd n1 n0 hN1 hN0 f1 f3 f4 f5 hr q1 hz100 h5 h0 hi hz hout' hcm' hw' hs' hn' hnl hl hout hcm hs hn; omega) | lia | omega)) (by show (r.2.1.map D.int)[_]? = _; rw [List.getElem?_map, hkd]; rfl)
      · rw [← hmost]
        exact Ev.bin Ev.int (Ev.bin (n1 rfl (Ev.bin (Ev.loc (by assumption) rfl rfl) Ev.int bin_add) (by intros; with_unfolding_all rfl)) Ev.int (bin_mod (by decide))) (bin_shl (by (first | (clear hmost hkd q2 n1 n0 hN1 hN0 f2 f1 f3 f4 f5 hr q1 hz100 h5 h0 hi hz hout' hcm' hw' hs' hn' hnl hl hout hcm hs hn; omega) | lia | omega)) (by (first | (clear hmost hkd q2 n1 n0 hN1 hN0 f2 f1 f3 f4 f5 hr q1 hz100 h5 h0 hi hz hout' hcm' hw' hs' hn' hnl hl hout hcm hs hn; omega) | lia | omega)) (by decide))
      have hW : Wide (6 + N1.fmod 8) most := ⟨by (first | (clear hmost hkd q2 n1 n0 hN1 hN0 f2 f1 f3 f4 f5 hr q1 hz100 h5 h0 hi hz hout' hcm' hw' hs' hn' hnl hl hout hcm hs hn; omega) | lia | omega), by (first | (clear hmost hkd q2 n1 n0 hN1 hN0 f2 f1 f3 f4 f5 hr q1 hz100 h5 h0 hi hz hout' hcm' hw' hs' hn' hnl hl hout hcm hs hn; omega) | lia | omega), by rw [← hmost]; exact wide_eq q3.1⟩
      refine Exs.ifJoin (p := r.2.2 == 3) (turnEnv c'.w nums kind most r.1 (c1I r.2.2 N1) at_) (Tr.cmp (Ev.loc (by assumption) rfl rfl) Ev.int cmp_eq) (fun hif => ⟨_, Exs.assign (d := .int (2 + (N1.fdiv 8).fmod 3)) (Ev.bin Ev.int (Ev.bin (Ev.bin (n1 rfl (Ev.bin (Ev.loc (by assumption) rfl rfl) Ev.int bin_add) (by intros; with_unfolding_all rfl)) Ev.int (bin_div (by decide) (by decide))) Ev.int (bin_mod (by decide))) bin_add) (by assumption) rfl Exs.nil, ?_⟩) (fun hif => ?_) ?_
      · unfold c1I; rw [if_pos hif]; exact ⟨rfl, rfl, rfl, rfl, rfl, rfl, rfl, trivial⟩
      · unfold c1I; rw [if_neg (by rw [hif]; decide)]; exact ⟨rfl, rfl, rfl, rfl, rfl, rfl, rfl, trivial⟩
      refine Exs.ifJoin (p := r.1 == "CMPLX") (turnEnv c'.w nums kind most r.1 (c2I r.1 kind r.2.2 N1) at_) (Tr.cmp (Ev.loc (by assumption) rfl rfl) Ev.str cmp_eqS) (fun hif => ⟨_, Exs.assign (d := .int (if kind == 3 then 1 else 1 + (N1.fdiv 8).fmod 2)) (Ev.iteI (Tr.cmp (Ev.loc (by assumption) rfl rfl) Ev.int cmp_eq) (fun _ => Ev.int) (fun _ => Ev.bin Ev.int (Ev.bin (Ev.bin (n1 rfl (Ev.bin (Ev.loc (by assumption) rfl rfl) Ev.int bin_add) (by intros; with_unfolding_all rfl)) Ev.int (bin_div (by decide) (by decide))) Ev.int (bin_mod (by decide))) bin_add)) (by assumption) rfl Exs.nil, ?_⟩) (fun hif => ?_) ?_
      · unfold c2I; rw [if_pos hif]; exact ⟨rfl, rfl, rfl, rfl, rfl, rfl, rfl, trivial⟩
      · unfold c2I; rw [if_neg (by rw [hif]; decide)]; exact ⟨rfl, rfl, rfl, rfl, rfl, rfl, rfl, trivial⟩
      obtain ⟨hcnt, hc1, hc4⟩ := c2_ok (nm := r.1) (kind := kind) (n1 := N1) f4
      generalize c2I r.1 kind r.2.2 N1 = cnt at hcnt hc1 hc4
      have hK : KindOk kind := by
        have := List.all_eq_true.mp f3 kind hkm
        simpa [KindOk, or_assoc] using this
      have hm32 : 32 ≤ most := by
        rw [← hmost]
        have : (0 : Int) < 2 ^ (N1.fmod 8).toNat := Int.pow_pos (by decide)
        (first | (clear hc4 hc1 hmost q3 hkd q2 n1 n0 hN1 hN0 f2 f1 f3 f4 f5 hr q1 hz100 h5 h0 hi hz hout' hcm' hw' hs' hn' hnl hl hout hcm hs hn; omega) | lia | omega)
      obtain ⟨N2, hN2⟩ : ∃ z, nums.getD (at_ + 2).toNat 0 = z := ⟨_, rfl⟩
      refine Exs.build (a := 0) (st := 1) (n := cnt.toNat) (pre := [_, _, _]) (fun i => keptD kind most (drawI nums at_ N1 i)) (by assumption) (fun x hx => nocell_lookup (by decide +kernel) hx) rfl rfl (by decide +kernel) (by decide +kernel) rfl rfl ?hnl (by (first | lia | omega)) (fun A => RangeEv.one (e_range (by assumption) rfl) (Ev.loc (by assumption) rfl rfl) (by (first | lia | omega)) (by (first | lia | omega))) (fun A i hi => ?hB) ?hR rfl
      case hnl =>
        intro p hp
        simp only [turnEnv, List.mem_cons, List.not_mem_nil, or_false] at hp
        rcases hp with rfl | rfl | rfl | rfl | rfl | rfl | rfl <;> rfl
      case hB =>
        have hki : (0 : Int) + (i : Int) * 1 = (i : Int) := by (first | lia | omega)
        rw [hki]
        have qk := fmod_rng (n := (i : Int)) (m := 3) (by decide)
        have hi4 : i < 4 := by (first | lia | omega)
        refine ⟨("value", rawD kind most (drawI nums at_ N1 i)) :: ("n", .int (baseI nums at_ N1 i)) :: ("k", .int i) :: ("values", .val (.ref A)) :: turnEnv c'.w nums kind most r.1 cnt at_, ?_, ?_, ?_, ?_⟩
        · refine Exs.assign (d := .int (nums.getD (at_ + 2 + (i : Int).fmod 3).toNat 0)) ?_ (by assumption) rfl (Exs.ifJoin (p := takesFirst i N1) (("n", .int (baseI nums at_ N1 i)) :: ("k", .int i) :: ("values", .val (.ref A)) :: turnEnv c'.w nums kind most r.1 cnt at_) ?_ (fun hif => ⟨_, Exs.assign (d := .int (nums.getD (at_ + 2).toNat 0)) ?_ (by assumption) rfl Exs.nil, ?_⟩) (fun hif => ?_) (Exs.assign (d := rawD kind most (drawI nums at_ N1 i)) ?_ (by assumption) rfl Exs.nil))
          · exact ev_num (by assumption) rfl rfl (Ev.bin (Ev.bin (Ev.loc (by assumption) rfl rfl) Ev.int bin_add) (Ev.bin (Ev.loc (by assumption) rfl rfl) Ev.int (bin_mod (by decide))) bin_add) (by (first | lia | omega)) (by (first | (clear hi4 hki hi hN2 hm32 hc4 hc1 hmost q3 hkd q2 n1 n0 hN1 hN0 f2 f1 f3 f4 f5 hr q1 hz100 h0 hi hz hout' hcm' hw' hs' hn' hnl hl hout hcm hs hn; omega) | lia | omega)) hz100 (by intros; with_unfolding_all rfl)
          · exact Tr.and (Tr.cmp (Ev.loc (by assumption) rfl rfl) Ev.int cmp_gt) (fun _ => Tr.and (Tr.cmp (Ev.bin (Ev.bin (n1 rfl (Ev.bin (Ev.loc (by assumption) rfl rfl) Ev.int bin_add) (by intros; with_unfolding_all rfl)) Ev.int (bin_div (by decide) (by decide))) Ev.int (bin_mod (by decide))) Ev.int cmp_eq) (fun _ => Tr.and (Tr.cmp (Ev.bin (Ev.loc (by assumption) rfl rfl) Ev.int (bin_mod (by decide))) Ev.int cmp_eq) (fun _ => Tr.andNil)))
          · exact ev_num (by assumption) rfl rfl (Ev.bin (Ev.loc (by assumption) rfl rfl) Ev.int bin_add) (by (first | lia | omega)) (by (first | (clear hif hi4 qk hki hi hN2 hm32 hc4 hc1 hmost q3 hkd q2 n1 n0 hN1 hN0 f2 f1 f3 f4 f5 hr q1 hz100 h0 hi hz hout' hcm' hw' hs' hn' hnl hl hout hcm hs hn; lia) | lia | omega)) hz100 (by intros; with_unfolding_all rfl)
          · unfold baseI; rw [if_pos hif]; exact ⟨rfl, rfl, rfl, rfl, rfl, rfl, rfl, rfl, rfl, rfl, trivial⟩
          · unfold baseI; rw [if_neg (by rw [hif]; decide)]; exact ⟨rfl, rfl, rfl, rfl, rfl, rfl, rfl, rfl, rfl, rfl, trivial⟩
          · exact Ev.call (e_law_value (by assumption) rfl) (Evs.cons (Ev.loc (by assumption) rfl rfl) (Evs.cons (Ev.bin (Ev.loc (by assumption) rfl rfl) (Ev.bin (Ev.loc (by assumption) rfl rfl) Ev.int (bin_div (by decide) (by decide))) bin_add) (Evs.cons (Ev.loc (by assumption) rfl rfl) Evs.nil))) (law_value_ok (drawI nums at_ N1 i) hK hm32) (by (first | lia | omega))
        · intro p hp
          simp only [turnEnv, List.mem_cons, List.not_mem_nil, or_false] at hp
          rcases hp with rfl | rfl | rfl | rfl | rfl | rfl | rfl | rfl | rfl | rfl | rfl
          · exact rawD_noLst _ _ _
          all_goals rfl
        · exact ⟨rfl, rfl, rfl, rfl, rfl, rfl, rfl, rfl, trivial⟩
        · refine EvX.of (Ev.if_ (p := kind == 1) (Tr.cmp (Ev.loc (by assumption) rfl rfl) Ev.int cmp_eq) (fun hif => ?_) (fun hif => ?_)) (keptD_noLst _ _ _)
          · have hk1 : kind = 1 := by simpa using hif
            subst hk1
            have hr9 := (raw_rl 1 (drawI nums at_ N1 i)).1
            exact Ev.call (e_law_told (by assumption) rfl) (Evs.cons (Ev.call (e_law_fixed (by assumption) rfl) (Evs.cons (d := tupD (v1I 1 (drawI nums at_ N1 i))) (Ev.loc (by assumption) rfl rfl) Evs.nil) (law_fixed_ok _ hr9.md hr9.lo40) (by (first | lia | omega))) (Evs.cons Ev.int Evs.nil)) (law_told_ok (FX (v1I 1 (drawI nums at_ N1 i))) 4 (by decide) (by decide) (FX_cd hr9)) (by (first | lia | omega))
          · have hk1 : kind ≠ 1 := by simpa using hif
            unfold keptD
            rw [if_neg hk1]
            exact Ev.loc (by assumption) rfl rfl
      case hR =>
        obtain ⟨vs, hvs⟩ : ∃ l, (List.range cnt.toNat).map (fun i => valD kind most (drawI nums at_ N1 i)) = l := ⟨_, rfl⟩
        refine Exs.ifJoin (p := kind == 3) (("values", .lst vs) :: turnEnv c'.w nums kind most r.1 cnt at_) (Tr.cmp (Ev.loc (by assumption) rfl rfl) Ev.int cmp_eq) (fun hif => ?hcpx) (fun hif => ?hsame) ?hrest
        case hcpx =>
          have hk3 : kind = 3 := by simpa using hif
          subst hk3
          refine ⟨_, Exs.assignComp (tst := fun _ => true) (f := partsD) (src := (List.range cnt.toNat).map (fun i => keptD 3 most (drawI nums at_ N1 i))) (CompOk.mk0 (by assumption) (IterEv.lst (Ev.loc (by assumption) rfl rfl)) (by rw [List.length_map, List.length_range]; lia) rfl rfl (by decide +kernel) (by decide +kernel) (fun env => by unfold closureFor; simp [List.forIn_cons, List.forIn_nil]) (fun c'' h1 h2 d hd => rfl) (fun c'' h1 h2 d hd _ => ?helt) (fun d hd _ => ?hdeep)) (by assumption) rfl ?hsw Exs.nil, ?hsub⟩
          case hdeep =>
            obtain ⟨i, _, rfl⟩ := List.mem_map.mp hd
            rfl
          case hsub =>
            rw [List.filter_eq_self.mpr (fun _ _ => rfl), List.map_map]
            have e : (List.range cnt.toNat).map (partsD ∘ fun i => keptD 3 most (drawI nums at_ N1 i)) = vs := by
              rw [← hvs]; rfl
            rw [e]
            exact ⟨rfl, rfl, rfl, rfl, rfl, rfl, rfl, rfl, trivial⟩
          case hsw =>
            intro env h1 h2
            unfold swapsWith
            simp [h1, h2]
            exact congrArg pure (by decide +kernel)
          case helt =>
            obtain ⟨i, _, rfl⟩ := List.mem_map.mp hd
            generalize drawI nums at_ N1 i = z
            refine EvX.of (Ev.call (e_tuple (by assumption) rfl) (Evs.cons (Ev.comp (CompOk.mk0 (tst := fun _ => true) (f := partD) (src := [tupD (v1I 1 (z.fdiv 3)), tupD (v1I 1 (z.fdiv 7 + 5))]) (by assumption) (IterEv.tup (Ev.loc (by assumption) rfl rfl)) (by simp) rfl rfl (by decide +kernel) (by decide +kernel) (fun env => by unfold closureFor; simp [List.forIn_cons, List.forIn_nil]) (fun c3 g1 g2 d hd => rfl) (fun c3 g1 g2 d hd _ => ?_) (fun d hd _ => ?_))) Evs.nil) (tuple_list_ok rfl (by simp)) (by (first | lia | omega))) rfl
            · obtain ⟨x, rfl, hx⟩ : ∃ x, d = tupD x ∧ Rl 9 x := by
                simp only [List.mem_cons, List.not_mem_nil, or_false] at hd
                rcases hd with rfl | rfl
                · exact ⟨_, rfl, (raw_rl 1 _).1⟩
                · exact ⟨_, rfl, (raw_rl 1 _).1⟩
              exact EvX.of (d := tupD (told (FX x) 4)) (Ev.call (e_law_told (by assumption) rfl) (Evs.cons (Ev.call (e_law_fixed (by assumption) rfl) (Evs.cons (d := tupD x) (Ev.loc (by assumption) rfl rfl) Evs.nil) (law_fixed_ok _ hx.md hx.lo40) (by (first | lia | omega))) (Evs.cons Ev.int Evs.nil)) (law_told_ok (FX x) 4 (by decide) (by decide) (FX_cd hx)) (by (first | lia | omega))) rfl
            · simp only [List.mem_cons, List.not_mem_nil, or_false] at hd
              rcases hd with rfl | rfl <;> rfl
        case hsame =>
          have hk3 : kind ≠ 3 := by simpa using hif
          have e : (List.range cnt.toNat).map (fun i => keptD kind most (drawI nums at_ N1 i)) = vs := by
            rw [← hvs]
            refine List.map_congr_left fun i _ => ?_
            unfold valD
            rw [if_neg hk3]
          rw [e]
          exact ⟨rfl, rfl, rfl, rfl, rfl, rfl, rfl, rfl, trivial⟩
        case hrest =>
          have hvl : vs.length = cnt.toNat := by rw [← hvs, List.length_map, List.length_range]
          have hvok : ∀ v ∈ vs, VOk kind most v := by
            intro v hv
            rw [← hvs] at hv
            obtain ⟨i, _, rfl⟩ := List.mem_map.mp hv
            exact valD_ok hK hm32
          have hvt : ∀ v ∈ vs, Thin v := by
            intro v hv
            rw [← hvs] at hv
            obtain ⟨i, _, rfl⟩ := List.mem_map.mp hv
            exact valD_thin _ _ _
          obtain ⟨due, f, rr, C1, hf, C2, hor, hdeep, hfine⟩ := rows_meet r hrm kind most (6 + N1.fmod 8) vs hW hkm (hvl ▸ hcnt) hvok
          have hFv := fine_list hvt
          refine Exs.assign (d := due) (Ev.call (e_law_due (by assumption) rfl) (Evs.cons (Ev.loc (by assumption) rfl rfl) (Evs.cons (Ev.loc (by assumption) rfl rfl) (Evs.cons (Ev.loc (by assumption) rfl rfl) (Evs.cons (Ev.loc (by assumption) rfl rfl) Evs.nil)))) C1 (by (first | lia | omega))) (by assumption) rfl ?_
          refine Exs.assign (d := .lst vs) (Ev.call (e_list (by assumption) rfl) (Evs.cons (d := .lst vs) (Ev.loc (by assumption) rfl rfl) Evs.nil) (list_copy_ok hFv.1 (by (first | lia | omega))) (Nat.zero_le _)) (by assumption) rfl ?_
          obtain ⟨m, hm⟩ : ∃ m, cnt.toNat = m + 1 := ⟨cnt.toNat - 1, by (first | lia | omega)⟩
          have hrep : List.replicate cnt.toNat (D.int kind) = .int kind :: List.replicate m (.int kind) := by rw [hm]; rfl
          rw [hvl, hrep] at C2
          refine Exs.tryCall (by assumption) hcm' (hout'.trans hout) rfl rfl (e_value_by (by assumption) rfl) (P := PCons c'.g (.tab (TabAt c'.w theT)) (PCons c'.g (.str r.1) (PCons c'.g (.lst (.int kind :: List.replicate m (.int kind))) (PCons c'.g (.lst vs) (fun h ws => ∃ x, ws = [.ref x] ∧ LimAt h x (6 + N1.fmod 8)))))) ?hargs ?hP (value_by_at c'.w r.1 kind (6 + N1.fmod 8) (List.replicate m (.int kind)) vs f 9 rr f5 hf C2 hdeep) (by (first | lia | omega)) ?_
          case hargs => exact EvsP.cons (d := .tab (TabAt c'.w theT)) (Ev.loc (by assumption) rfl rfl) (EvsP.cons (d := .str r.1) (Ev.loc (by assumption) rfl rfl) (EvsP.cons (d := .lst (.int kind :: List.replicate m (.int kind))) (Ev.cast (Ev.bin (Ev.lst (Evs.cons (Ev.loc (by assumption) rfl rfl) Evs.nil) (by rw [sizeLine_eq]; simp)) (Ev.loc (by assumption) rfl rfl) (bin_mulL1 (by (first | lia | omega)) (by (first | lia | omega)))) (congrArg D.lst hrep)) (EvsP.cons (d := .lst vs) (Ev.loc (by assumption) rfl rfl) (EvsP.lim (e_Limits (by assumption) rfl) (Evs.cons (Ev.bin Ev.int (Ev.bin (n1 rfl (Ev.bin (Ev.loc (by assumption) rfl rfl) Ev.int bin_add) (by intros; with_unfolding_all rfl)) Ev.int (bin_mod (by decide))) bin_add) (Evs.cons Ev.int (Evs.cons Ev.int (Evs.cons Ev.int Evs.nil)))) (by (first | lia | omega))))))
          case hP =>
            intro h ws kg hv
            obtain ⟨_, _, rfl, r1, _, _, rfl, r2, _, _, rfl, r3, _, _, rfl, r4, x, rfl, hl⟩ := hv
            exact .cons (r1.mono kg fun _ _ e _ => e) (.cons (r2.mono kg fun _ _ e _ => e) (.cons (r3.mono kg fun _ _ e _ => e) (.cons (r4.mono kg fun _ _ e _ => e) (.cons (.lim hl) .nil))))
          rw [hor]
          refine Exs.if_ (p := false) (Tr.withOk fun O => ?htest) (fun hif => nomatch hif) (fun _ => Exs.nilS0 (b := []) ⟨rfl, rfl, trivial⟩)
          have hu : c'.A.units + 64 < cLine := by have := O.units; (first | (clear hrep hm hdeep hor hf hvt hvok hvl hvs hN2 hm32 hc4 hc1 hmost q3 hkd q2 n1 n0 hN1 hN0 f2 f1 f3 f4 f5 hr q1 hz100 h5 h0 hi hz hout' hcm' hw' hs' hn' hnl hl hout hcm hs hn; lia) | lia | omega)
          refine Tr.castP (Tr.or (Tr.cmp (Ev.loc (by assumption) rfl rfl) (Ev.loc (by assumption) rfl rfl) (cmp_neD hfine.2.1 hfine.2.2 hu)) (fun _ => Tr.or (Tr.cmp (Ev.call (e_isinstance (by assumption) rfl) (Evs.cons (Ev.loc (by assumption) rfl rfl) (Evs.cons (e_bool (by assumption) rfl) Evs.nil)) (isinst_bool_ok hfine.2.1) (Nat.zero_le _)) (Ev.call (e_isinstance (by assumption) rfl) (Evs.cons (Ev.loc (by assumption) rfl rfl) (Evs.cons (e_bool (by assumption) rfl) Evs.nil)) (isinst_bool_ok hfine.2.1) (Nat.zero_le _)) (cmp_neD rfl (Nat.zero_le _) hu)) (fun _ => Tr.or (Tr.cmp (Ev.loc (by assumption) rfl rfl) (Ev.loc (by assumption) rfl rfl) (cmp_neD hFv.2.1 hFv.2.2 hu)) (fun _ => Tr.orNil)))) rfl
end
section
/-- the defs of a text's top -/
noncomputable
def picks (p : Program) : List (Str × Arguments × List Stmt × Scope) := p.main.body.filterMap fun st => match st with
  | .FunctionDef n a b [] none [] sc none _ _ => some (n, a, b, sc)
  | _ => none
theorem picks_mem {p : Program} {i : Nat} {n : Str} {a : Arguments} {b : List Stmt} {sc : Scope} {ps : Pos} (h : p.main.body[i]? = some (PySem.Stmt.FunctionDef n a b [] none [] sc none n ps)) : (n, a, b, sc) ∈ picks p :=
  List.mem_filterMap.mpr ⟨_, List.mem_of_getElem? h, rfl⟩
noncomputable
def backs (l : List DefRec) : List (Str × Arguments × List Stmt × Scope) := l.map fun d => (d.name, d.params, d.body, d.scope)
theorem sta_of_top {w : World} {p : Program} {loose : List Str} {mean : ExcName → Option Value} {mg mb : Str → Option Value} {g : Heap} (T : Top p loose mean mg mb g) (KX : (Ks w.params).In g) (hp : picks P0 = backs (recsOf p)) : Sta w g := by
  refine ⟨KX, fun i n a b sc ps h => ?_, ⟨mg, mb, T.g, T.b, T.builtins⟩, T.nolimit, T.nodigits⟩
  have hm := picks_mem h
  rw [hp] at hm
  obtain ⟨d, hd, e⟩ := List.mem_map.mp hm
  obtain ⟨f, o, pm, cd, doc, h1, h2, h3, h4⟩ := T.fn d hd
  cases e
  exact ⟨f, o, pm, cd, doc, ⟨mg, T.g, h1⟩, h2, h3, h4⟩
theorem ints_rd {g h : Heap} : ∀ {vs : List Value} {is : List Int}, IntsAre vs is → RdAll g h vs (is.map D.int)
  | _, _, .nil => .nil
  | _, _, .cons n t r => .cons (.int n t) (ints_rd r)
noncomputable
def defParts (i : Nat) : Arguments × List Stmt × Scope × Pos := match P0.main.body[i]? with
  | some (.FunctionDef _ a b _ _ _ sc _ _ ps) => (a, b, sc, ps)
  | _ => ({ posonlyargs := [], args := [], vararg := none, kwonlyargs := [], kw_defaults := [], kwarg := none, defaults := [] }, [], { kind := .function, names := [], isGenerator := false, isCoroutine := false, more := [] }, ⟨0, 0, 0, 0⟩)
noncomputable
abbrev lawParts : Arguments × List Stmt × Scope × Pos := defParts 85
theorem law_at : P0.main.body[85]? = some (PySem.Stmt.FunctionDef "law" lawParts.1 lawParts.2.1 [] none [] lawParts.2.2.1 none "law" lawParts.2.2.2) := rfl
theorem law_walks {w : World} {s₁ : Shared} {is : List Int} {x : Addr} {vs : List Value} {h₁ : Heap} {a : Addr} {cd : Value} {tk : Tok} {body : List Stmt} {scope : Scope} {m : Str → Option Value} {Q : Flow → Shared → Prop} {E : Value → Shared → Prop}
    (hb : body = lawParts.2.1) (hsc : scope = lawParts.2.2.1) (hk : scope.kind = .function) (hnc : ∀ y ∈ scope.names, y.2 ≠ .cell) (St : Sta w s₁.heap) (hL : s₁.heap.IsList x vs.toArray) (hI : IntsAre vs is) (hl : is.length ≤ 63)
    (F : Fr s₁.heap s₁.heap.objs.size h₁ m) (hm : m "script" = some (.ref x)) (hQ : ∀ s', s'.os = s₁.os → s'.gens = s₁.gens → Kp s₁.heap s'.heap → Q (.ret (.bool true)) s') :
    wpAny (model P0 w) (callerA.deeper (envOf "law" scope s₁.heap.objs.size a cd)) (execs body (envOf "law" scope s₁.heap.objs.size a cd)) Q E { s₁ with heap := h₁, toks := tk } := by
  have hst : P0.main.body[85]? = some (PySem.Stmt.FunctionDef "law" lawParts.1 body [] none [] scope none "law" lawParts.2.2.2) := by rw [hb, hsc]; exact law_at
  let c : Cx := ⟨w, callerA.deeper (envOf "law" scope s₁.heap.objs.size a cd), envOf "law" scope s₁.heap.objs.size a cd, s₁.heap, s₁.heap, [], 12, scope.names, [envOf "law" scope s₁.heap.objs.size a cd], false⟩
  have O : c.Ok := {
    kind := hk
    names := rfl
    globals := rfl
    builtins := rfl
    frame := fun _ => rfl
    handled := rfl
    depth := by show callerA.depth + 1 + 12 < recursionLimit; decide
    units := by show callerA.units + 3 + 10 * 12 + 100 < cLine; decide
    frames := rfl
    frEq := fun _ => rfl
    funs := fun _ => trivial
    funsC := fun h => nomatch h
    stays := fun _ _ e => e
    sta := St
    new := Heap.get?_none_of_le (Nat.le_refl _) }
  have Fm0 : Fm c [("script", .lst (is.map D.int))] h₁ := by
    refine ⟨⟨m, F.ns, fun y d hy _ => ?_⟩, fun y d _ hc => (nocell_lookup hnc hc).elim, F.keep, fun _ y hc => (nocell_lookup hnc hc).elim⟩
    simp only [List.lookup] at hy
    split at hy
    · rename_i e
      have ey : y = "script" := by simpa using e
      cases hy
      obtain ⟨o, ho, hoc, n, hd⟩ := hL
      subst ey
      exact ⟨_, hm, .lst (F.keep _ _ ho) hoc hd (by rw [List.toList_toArray]; exact ints_rd hI)⟩
    · cases hy
  refine (law_go _ _ _ _ hst c is rfl rfl rfl rfl hl).go O _ Q E Fm0 ⟨fun _ _ h => (nomatch h), fun v s' d hd kl sm k r => ?_, fun _ _ h => nomatch h⟩
  cases hd
  cases r
  obtain ⟨h', t', rfl⟩ := sm
  exact hQ _ rfl rfl k
end
section
theorem law_post (args : List WData) : PySem.Challenge.rw_no0251_01.row.claim.post args (.bool true) args = true := by
  have hp : PySem.Challenge.rw_no0251_01.row.post = .eq .res (.lit (.bool true)) := rfl
  refine postW_of (X := true) ?_ ?_ rfl
  · show WShape.has [] (.bool true) .bool = true
    first | rfl | decide | simp [WShape.has, WShape.arms]
  · rw [hp]
    wtm_val
end
end Mine
end
section
open PySem PySem.W PySem.Calls PyProof.Rows
set_option maxRecDepth 100000
namespace Mine
namespace core
theorem tw9984890191404168936 : True := trivial
theorem tw14650693596038310323 : True := trivial
theorem tw2116094350861755648 : True := trivial
theorem tw12860411238985861593 : True := trivial
theorem tw33017470902146549 : True := trivial
theorem tw10469316627618971714 : True := trivial
theorem tw2731498877637191597 : True := trivial
theorem tw14103803543450295110 : True := trivial
theorem tw623596031305159075 : True := trivial
theorem tw1516073396710757720 : True := trivial
theorem tw18401164883762629482 : True := trivial
theorem tw6439514542877459932 : True := trivial
theorem tw7254951758631559074 : True := trivial
theorem tw7150639116127892670 : True := trivial
theorem tw6354073682069572844 : True := trivial
theorem tw9556590576370986100 : True := trivial
theorem tw5304416813032855372 : True := trivial
theorem tw5375821393079000745 : True := trivial
theorem tw16420913235691536797 : True := trivial
theorem tw18316690524777832096 : True := trivial
theorem tw2823038858558545585 : True := trivial
theorem tw12035427384147600578 : True := trivial
theorem tw14195126336604514501 : True := trivial
theorem tw15169915630918766581 : True := trivial
theorem tw13514661353689827312 : True := trivial
theorem tw5572752005224699908 : True := trivial
theorem tw3955889899310466586 : True := trivial
theorem tw12824605041721999595 : True := trivial
theorem tw7366103548213759920 : True := trivial
theorem tw8002565781985698662 : True := trivial
theorem tw13449368820067402073 : True := trivial
theorem tw6877036131940178165 : True := trivial
theorem tw3831193552445914120 : True := trivial
theorem tw15550033546924390850 : True := trivial
theorem tw11344723193728702376 : True := trivial
theorem tw4041487796511522760 : True := trivial
theorem tw15407070742305341865 : True := trivial
theorem tw16030892461612492691 : True := trivial
theorem tw15649024473956946092 : True := trivial
theorem tw17673744690117897408 : True := trivial
theorem tw16791908385445053268 : True := trivial
theorem tw1140304519968407317 : True := trivial
theorem tw3959245617988664648 : True := trivial
theorem tw9407938111316076274 : True := trivial
theorem tw9135358590668154909 : True := trivial
theorem tw824571663937056733 : True := trivial
theorem tw11731011827722494537 : True := trivial
theorem tw10414922257301320035 : True := trivial
theorem tw2139803084004549999 : True := trivial
theorem tw14414217278276872951 : True := trivial
theorem tw15102030861641288432 : True := trivial
theorem tw2857814629201592773 : True := trivial
theorem tw16906202702779241495 : True := trivial
theorem tw13630588643310155639 : True := trivial
theorem tw15705714704798042915 : True := trivial
theorem tw13732708313983657529 : True := trivial
theorem tw2973855930877010843 : True := trivial
theorem tw5918738462316677458 : True := trivial
theorem tw4781719603536944834 : True := trivial
theorem tw2241240692838250267 : True := trivial
theorem tw10017096200928130398 : True := trivial
theorem tw2850962844445679518 : True := trivial
theorem tw8705729148521957083 : True := trivial
theorem tw11403322986919704335 : True := trivial
theorem tw435187890894096261 : True := trivial
theorem tw9330253641128948230 : True := trivial
theorem tw5598477813328522762 : True := trivial
theorem tw4431893868045946463 : True := trivial
theorem tw7503425146635674679 : True := trivial
theorem tw5662967791045523329 : True := trivial
theorem tw1090764855255675192 : True := trivial
theorem tw3328250598171299071 : True := trivial
theorem tw9718138096701185236 : True := trivial
theorem tw11046762005591291393 : True := trivial
theorem tw18146860059879598536 : True := trivial
theorem tw16328554638242285845 : True := trivial
theorem tw1269350712292928185 : True := trivial
theorem tw7400916526341901772 : True := trivial
theorem tw14025604602632252787 : True := trivial
theorem tw2498172733858115846 : True := trivial
theorem tw8368295578916033039 : True := trivial
theorem tw6601120445056070284 : True := trivial
theorem tw3465396518471573814 : True := trivial
theorem tw12817117102533636495 : True := trivial
theorem tw13410164332819525104 : True := trivial
theorem tw6324919982323434904 : True := trivial
theorem tw7150277680904063942 : True := trivial
theorem tw11175415985939125724 : True := trivial
theorem tw3904493487167500769 : True := trivial
theorem tw12851777507020604372 : True := trivial
theorem tw13324105168704265595 : True := trivial
theorem tw15677246781937635751 : True := trivial
theorem tw16776203489075879460 : True := trivial
theorem tw1802834572402844774 : True := trivial
theorem tw3774323398764069078 : True := trivial
theorem tw9410298710569922852 : True := trivial
theorem tw5821282957513525424 : True := trivial
theorem tw5379878895746910749 : True := trivial
theorem tw9772132954842849480 : True := trivial
theorem tw10624113869223614476 : True := trivial
theorem tw12287221310929401179 : True := trivial
theorem tw17144022164860399754 : True := trivial
theorem tw15783614587040091405 : True := trivial
theorem tw1123989087283327413 : True := trivial
theorem tw15802031279065414281 : True := trivial
theorem tw3792007043989430316 : True := trivial
theorem tw13863460959568510414 : True := trivial
theorem tw14946407619626681526 : True := trivial
theorem tw16641385307845392136 : True := trivial
theorem tw17440361959084801653 : True := trivial
theorem tw4015953807317474082 : True := trivial
theorem tw2024234331916360881 : True := trivial
theorem tw5970240932203409684 : True := trivial
theorem tw9673068733744582021 : True := trivial
theorem tw16372071147675540489 : True := trivial
theorem tw12067882698908019733 : True := trivial
theorem tw15052082476097562387 : True := trivial
theorem tw18241107282087824248 : True := trivial
theorem tw1317318019316351251 : True := trivial
theorem tw11962134483875102330 : True := trivial
theorem tw5608538756783121964 : True := trivial
theorem tw2089507551510866032 : True := trivial
theorem tw15641254397815949873 : True := trivial
theorem tw1244750024581383290 : True := trivial
theorem tw12462273129704840966 : True := trivial
theorem tw7562604338393642645 : True := trivial
theorem tw7166364244797941167 : True := trivial
theorem tw17103358818948393290 : True := trivial
theorem tw1996036968644813246 : True := trivial
theorem tw463603161914233574 : True := trivial
theorem tw5519436570351249511 : True := trivial
theorem tw1308926397501988059 : True := trivial
theorem tw682583845592109288 : True := trivial
theorem tw16854565387666283286 : True := trivial
theorem tw9963056458884284441 : True := trivial
theorem tw5161844133086693373 : True := trivial
theorem tw13640272903234078574 : True := trivial
theorem tw1786477491429959196 : True := trivial
theorem tw15727353791540354860 : True := trivial
theorem tw11944985047512435256 : True := trivial
theorem tw8767521723211651728 : True := trivial
theorem tw15373424440816472986 : True := trivial
theorem tw9861357093961561719 : True := trivial
theorem tw2054154788919417630 : True := trivial
theorem tw4842252531905189586 : True := trivial
theorem tw859668088878229676 : True := trivial
theorem tw8639838891833805722 : True := trivial
theorem tw7864672262185976098 : True := trivial
theorem tw8176102278119238065 : True := trivial
theorem tw1878201954910067727 : True := trivial
theorem tw6050164527148384910 : True := trivial
theorem tw12157921010447360179 : True := trivial
theorem tw9847019182676408780 : True := trivial
theorem tw18207134531796016301 : True := trivial
theorem tw9373488673189168311 : True := trivial
theorem tw18155493798578305743 : True := trivial
theorem tw15781438292810385379 : True := trivial
theorem tw1869765097327863836 : True := trivial
theorem tw5050211913992566191 : True := trivial
theorem tw10515707179493894587 : True := trivial
theorem tw820546562185861425 : True := trivial
theorem tw12597368649434474169 : True := trivial
theorem tw7532324505685845435 : True := trivial
theorem tw591631920562008163 : True := trivial
theorem tw6722619806568567317 : True := trivial
theorem tw478081758502990878 : True := trivial
theorem tw1627632400837561059 : True := trivial
theorem tw4749030555619550186 : True := trivial
theorem tw72486070090622160 : True := trivial
theorem tw11468165453452967028 : True := trivial
theorem tw3446039206123135267 : True := trivial
theorem tw15439577312254231965 : True := trivial
theorem tw8478578770095507170 : True := trivial
theorem tw12082747186356729147 : True := trivial
theorem tw3593849663950480720 : True := trivial
theorem tw3431356594755137225 : True := trivial
theorem tw12908111115572212053 : True := trivial
theorem tw12113311694347984659 : True := trivial
theorem tw3544293042028450075 : True := trivial
theorem tw6057542223958930969 : True := trivial
theorem tw3302048831068800884 : True := trivial
theorem tw9176858681512481527 : True := trivial
theorem tw14868859001621878791 : True := trivial
theorem tw15706384997851072030 : True := trivial
theorem tw4404218868684915768 : True := trivial
theorem tw3898854501408041374 : True := trivial
theorem tw2191977042887155504 : True := trivial
theorem tw6028454213651384053 : True := trivial
theorem tw2205471287056680907 : True := trivial
theorem tw17530885066373689763 : True := trivial
theorem tw9575242300664322933 : True := trivial
theorem tw5915880568657506904 : True := trivial
theorem tw12855628987967908601 : True := trivial
theorem tw4381951883575371915 : True := trivial
theorem tw6718260745079706214 : True := trivial
theorem tw9076224200263218417 : True := trivial
theorem tw15557904806863800789 : True := trivial
theorem tw448675812597370685 : True := trivial
theorem tw10954836878677837290 : True := trivial
theorem tw6917228962823704093 : True := trivial
theorem tw17214086772132861259 : True := trivial
theorem tw5959555148096563306 : True := trivial
theorem tw11765359011730870386 : True := trivial
theorem tw11507623367858752870 : True := trivial
theorem tw17000984267990200693 : True := trivial
theorem tw18414779700217491303 : True := trivial
theorem tw5523099483961294423 : True := trivial
theorem tw14060741842424865979 : True := trivial
theorem tw1314237250367588335 : True := trivial
theorem tw13792781822525461134 : True := trivial
theorem tw10923394741768522282 : True := trivial
theorem tw16225037540032678295 : True := trivial
theorem tw4444544767841391627 : True := trivial
theorem tw13051763374683824602 : True := trivial
theorem tw14305296767000436891 : True := trivial
theorem tw13246764017499302452 : True := trivial
theorem tw6117315672272679043 : True := trivial
theorem tw8162441569240819768 : True := trivial
theorem tw547173992472487933 : True := trivial
theorem tw11144222980412032756 : True := trivial
theorem tw12778858452623771514 : True := trivial
theorem tw9683611027417026024 : True := trivial
theorem tw10305795038944920181 : True := trivial
theorem tw9820834853484435038 : True := trivial
theorem tw10763978308546930579 : True := trivial
theorem tw8286928411970542345 : True := trivial
theorem tw4847490577543894088 : True := trivial
theorem tw4365246241144794597 : True := trivial
theorem tw7033523004761056413 : True := trivial
theorem tw4873404589351043446 : True := trivial
theorem tw18003041194372728776 : True := trivial
theorem tw3958710224753219948 : True := trivial
theorem tw663308357670336937 : True := trivial
theorem tw2338593547425362500 : True := trivial
theorem tw10049122206358605792 : True := trivial
theorem tw9484909277582156533 : True := trivial
theorem tw12374809757791881079 : True := trivial
theorem tw15135451264138389384 : True := trivial
theorem tw8012938661269632233 : True := trivial
theorem tw6246534438952034831 : True := trivial
theorem tw6854600058786028135 : True := trivial
theorem tw5511846349700150779 : True := trivial
theorem tw11815975552939243413 : True := trivial
theorem tw7673376263200578055 : True := trivial
theorem tw17227090139543037065 : True := trivial
theorem tw3441693648263067685 : True := trivial
theorem tw16937413979866860718 : True := trivial
theorem tw12545545703723313026 : True := trivial
theorem tw17955627881272705945 : True := trivial
theorem tw4675571805504608070 : True := trivial
theorem tw8009279449200395539 : True := trivial
theorem tw8848609523284515961 : True := trivial
theorem tw16765054976518959625 : True := trivial
theorem tw12640281415511263436 : True := trivial
theorem tw10940338750332978609 : True := trivial
theorem tw8438012388792771280 : True := trivial
theorem tw13160633226936444994 : True := trivial
theorem tw7396257459991145129 : True := trivial
theorem tw17431273780671130463 : True := trivial
theorem tw15312111127289359801 : True := trivial
theorem tw1930895741848064642 : True := trivial
theorem tw10224360840118963430 : True := trivial
theorem tw884339361265358060 : True := trivial
theorem tw9673012710425526253 : True := trivial
theorem tw12802407705830074207 : True := trivial
theorem tw7553281612460030148 : True := trivial
theorem tw11761593286385810698 : True := trivial
theorem tw14231463280701371856 : True := trivial
theorem tw9600142792185163863 : True := trivial
theorem tw4393408643073464778 : True := trivial
theorem tw7210102003811551 : True := trivial
theorem tw14572916401846278922 : True := trivial
theorem tw12902559525705931842 : True := trivial
theorem tw11636989167375265763 : True := trivial
theorem tw387533482241455507 : True := trivial
theorem tw10357696950005041718 : True := trivial
theorem tw11676359070966932750 : True := trivial
theorem tw15776866687896521629 : True := trivial
theorem tw1512546217641134837 : True := trivial
theorem tw16448577078982126916 : True := trivial
theorem tw3126710295690454948 : True := trivial
theorem tw1094758580310225547 : True := trivial
theorem tw8783522399137863720 : True := trivial
theorem tw5608609344920978997 : True := trivial
theorem tw13509898508042802754 : True := trivial
theorem tw12702649369643136768 : True := trivial
theorem tw1940959894689180577 : True := trivial
theorem tw3002426797286255783 : True := trivial
theorem tw6052472551349838054 : True := trivial
theorem tw12766034420542672877 : True := trivial
theorem tw14473447975431719473 : True := trivial
theorem tw13178671798833728616 : True := trivial
theorem tw9336381335450682805 : True := trivial
theorem tw13038525836935920032 : True := trivial
theorem tw4258185535827891300 : True := trivial
theorem tw1384098398728058145 : True := trivial
theorem tw1441682879238972689 : True := trivial
theorem tw17448778763131349543 : True := trivial
theorem tw9423786025049055245 : True := trivial
theorem tw2794261787216237744 : True := trivial
theorem tw14443234774277117686 : True := trivial
theorem tw8501726749417233336 : True := trivial
theorem tw17651109269288931208 : True := trivial
theorem tw6985295288330506497 : True := trivial
theorem tw17161107894211559320 : True := trivial
theorem tw12762166179490204401 : True := trivial
theorem tw1825306335068362454 : True := trivial
theorem tw1825182522426771999 : True := trivial
theorem tw10948428838744181969 : True := trivial
theorem tw8377806614474157819 : True := trivial
theorem tw15693476911269330211 : True := trivial
theorem tw12551092928982979467 : True := trivial
theorem tw18173536504036807895 : True := trivial
theorem tw3583788385509805853 : True := trivial
theorem tw11342635216236010773 : True := trivial
theorem tw8545575655794415304 : True := trivial
theorem tw11283503589549122435 : True := trivial
theorem tw15752830634621569457 : True := trivial
theorem tw1942810731872033405 : True := trivial
theorem tw8913225364066017344 : True := trivial
theorem tw15834546043735535884 : True := trivial
theorem tw11450261341291978320 : True := trivial
theorem tw15557843812539752721 : True := trivial
theorem tw11569439517209111527 : True := trivial
theorem tw12077927246596821120 : True := trivial
theorem tw5479771490630664064 : True := trivial
theorem tw13064773797165740849 : True := trivial
theorem tw5000816795846971522 : True := trivial
theorem tw3690949655961088731 : True := trivial
theorem tw17072264577280215432 : True := trivial
theorem tw17632031613327598585 : True := trivial
theorem tw1416138932818629131 : True := trivial
theorem tw2630009462633973027 : True := trivial
theorem tw9213603178287335739 : True := trivial
theorem tw15262045114159890983 : True := trivial
theorem tw9164635423911499549 : True := trivial
theorem tw16943436985362839278 : True := trivial
theorem tw17389065085206870139 : True := trivial
theorem tw8169744207503848327 : True := trivial
theorem tw4474066057246472379 : True := trivial
theorem tw13183521527567345932 : True := trivial
theorem tw8239642834275342569 : True := trivial
theorem tw2007031149374381640 : True := trivial
theorem tw8496804438084337722 : True := trivial
theorem tw13550992265264873152 : True := trivial
theorem tw17951054576106973473 : True := trivial
theorem tw673009139367898203 : True := trivial
theorem tw11143394727647337486 : True := trivial
theorem tw3121241813119491033 : True := trivial
end core
set_option Elab.async true
set_option maxHeartbeats 0 in
theorem core : PySem.Challenge.rw_no0251_01.Holds := by
  w_on; o_law; o_head (kHook Mine.Ks Mine.KsAt (fun _ => by kernel_rfl)); (case hw => w_witness2)
  w_strict (
    intro w s₀ s₁ mg mb G Y fa o pm cd doc dV kV ho hd hcd hD hmg hg args vals as hpre hlay hrd hwl hlo
    have KX := kIn_of Y
    k_behind G ho hd hcd hD hmg hpre hlay hrd hwl hlo cd)
  all_goals (
    refine law_walks (by kernel_rfl) (by kernel_rfl) rfl (by decide) (sta_of_top (by assumption) KX ?hp1) (by assumption) (by assumption) ?hl1 (by assumption) rfl ?hQ1)
  case hp1 => kernel_rfl
  case hl1 => omega
  case hQ1 =>
    intro s' hos1 hg1 hk1
    show GoodW _ _ _ _ _ (.ok (.ret (.bool true))) _
    refine ⟨.inl ⟨.bool true, .bool true, [], rfl, ?hn2, .bool true, ?hp2, unshared_nil⟩, hk1, hos1, hg1.trans hg⟩
    case hn2 => exact raisesW_false (by wrow_none_raised)
    case hp2 => exact law_post _
end Mine
end
theorem PySem.Challenge.cw_no0251_01_holds : PySem.Challenge.rw_no0251_01.Holds := by
  exact Mine.core
