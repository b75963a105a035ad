import PyProof.Rows.All
import Wide.All
import OpenK.AllK
import Wide.FinOn
import PyProof.InstStoreFacts
import PyProof.ExcInit
import OpenK.KMore
import PyProof.AssignAttr
import PyProof.ExcAttrAll.Exception
import Lean
import PySem.Challenge.RW_rh0046_01
open PySem PySem.W PyProof.Rows
set_option Elab.async false
set_option maxRecDepth 100000
set_option linter.unusedVariables false
set_option linter.unusedSimpArgs false
set_option linter.all false
set_option compiler.extract_closed false

section
open PySem PySem.W PyProof.Rows
set_option maxHeartbeats 0
namespace Gos
open PySem PySem.W

noncomputable def layT : List Obj → Nat → BT → BT
  | [], _, t => t
  | o :: l, n, t => layT l (n + 1) (t.ins n o)
end Gos
end

section
open PySem PySem.W PyProof.Rows
set_option maxHeartbeats 0
namespace Gos
open PySem PySem.W

noncomputable def stAt (i : Nat) : Stmt := (PySem.Challenge.pw_rh0046_01.main.body[i]?).getD (.Pass default)
noncomputable def fB : Stmt → List Stmt
  | .FunctionDef _ _ b _ _ _ _ _ _ _ => b
  | _ => []
noncomputable def fS : Stmt → Scope
  | .FunctionDef _ _ _ _ _ _ s _ _ _ => s
  | _ => { kind := .module, names := [], isGenerator := false, isCoroutine := false }
noncomputable def fNm : Stmt → Str
  | .FunctionDef n _ _ _ _ _ _ _ _ _ => n
  | _ => ""
noncomputable def fP : Stmt → Arguments
  | .FunctionDef _ p _ _ _ _ _ _ _ _ => p
  | _ => default
noncomputable def cB : Stmt → List Stmt
  | .ClassDef _ _ _ b _ _ _ _ _ _ _ => b
  | _ => []
noncomputable def hdS : List Stmt → Stmt
  | s :: _ => s
  | [] => .Pass default
noncomputable def defIdx : List Nat := [3, 4, 5, 6, 7, 9, 10, 11, 12, 13, 14, 15, 16, 17, 18, 19, 20, 21, 22, 23, 25, 26, 27, 28, 30, 31, 32, 33, 37, 38, 39, 40, 41, 42, 43, 44, 45, 46, 48, 49, 50, 52, 53, 54, 55, 56, 57, 58, 59, 60, 61, 62, 66, 67, 68, 69, 70, 71, 72, 73, 74, 75, 76, 77, 78,
  84, 85, 86, 87, 88, 89, 91, 92, 93, 94, 95, 96, 98, 99, 101, 102, 103, 104, 105, 106, 107, 108, 109, 110, 111, 112, 113, 114, 115, 118, 119, 122, 123, 124, 125, 126, 127, 128, 129, 131, 132, 133, 134]
noncomputable def qv : Program := view PySem.Challenge.pw_rh0046_01 defIdx
noncomputable def looseL : List Str := ["CasFail", "R0", "R1", "HALF", "MOST_DIVIDED", "MOST_WALKED", "MOST_TOLD", "MOST_NUMBERS", "MOST_WORK", "F0", "MOST_DEGREE"]
noncomputable def obsN : List Str := ["CasFail", "R0", "R1", "HALF", "F0", "MOST_DIVIDED", "MOST_WALKED", "MOST_TOLD", "MOST_NUMBERS", "MOST_WORK", "MOST_DEGREE", "Exception", "len", "abs", "max", "range", "list", "enumerate", "reversed", "sorted", "any", "isinstance", "str", "min"]
noncomputable def obsA : List Addr := [27, 28, 30, 31, 215, 216, 379, 646, 647, 648]
noncomputable def initSt : Stmt := hdS (cB (stAt 1))
end Gos
end

section
open PySem PySem.W PyProof.Rows
namespace Gos
open PySem PySem.W

noncomputable abbrev de (P : Params) (x : Str) (t : Tok) (v : Value) : DictEntry := ⟨PyData.keyHash P x, .str x t, v⟩
noncomputable def valV : List (Option Value) := [some (.ref 31), some (.ref 215), some (.ref 216), some (.ref 379), some (.ref 648), some (.int 10000000000 690), some (.int 1000 821), some (.int 40 823), some (.int 10000000 827), some (.int 1000000 831), some (.int 200 1094),
  none, none, none, none, none, none, none, none, none, none, none, none, none]
noncomputable def valO (P : Params) : List (Option Obj) :=
  [some { cls := .type "code", data := .fields #[.str "__init__" 201, .str "CasFail.__init__" 202, .str "/claim/cut.py" 203, .int 4 0, .int 3 0, .int 0 0, .int 0 0, .int 3 0, .ref 22, .bool true, .int 181 0, .ref 23, .none, .ref 24, .ref 25, .ref 26, .int 207 0, .int 4 0, .str "/claim/cut.py" 208] },
   some { cls := .type "function", data := .func { name := "__init__", qualname := "CasFail.__init__", params := fP initSt, body := .stmts (fB initSt), scope := fS initSt, globals := 3, closure := [], defaults := .none, kwdefaults := .none, pyModule := .str "cas.errors" 187, code := .ref 27 } },
   some { cls := .type "dict", data := .dict #[de P "__module__" 196 (.str "cas.errors" 187), de P "__firstlineno__" 200 (.int 2 199), de P "__init__" 209 (.ref 28), de P "__static_attributes__" 212 (.ref 29), de P "__weakref__" 214 (.ref 32), de P "__doc__" 215 .none] 3 },
   some { cls := .type "type", data := .cls { name := "CasFail", bases := [.type "Exception"], mro := [.ref 31, .type "Exception", .type "BaseException", .type "object"], ns := 30, qualname := "CasFail" }, slots := #[some (.ref 15), none, some (.str "CasFail" 189), some (.str "CasFail" 197), some (.builtin "Exception.__new__"), some (.bool true)] },
   some { cls := .type "tuple", data := .seq #[.int 0 470, .int 1 471] }, some { cls := .type "tuple", data := .seq #[.int 1 473, .int 1 474] }, some { cls := .type "tuple", data := .seq #[.int 1 685, .int 2 686] },
   some { cls := .type "list", data := .seq #[] }, some { cls := .type "list", data := .seq #[.ref 216] }, some { cls := .type "tuple", data := .seq #[.ref 646, .ref 647] }]
noncomputable def obs (s : Shared) : Bool × List (Option Value) × List (Option Obj) := (s.heap.isNs mainGlobals, obsN.map (s.heap.nsMap mainGlobals), obsA.map s.heap.get?)
noncomputable def valA (w : World) : Bool × List (Option Value) × List (Option Obj) := (true, valV, valO w.params)
noncomputable def xt (q : Program) (s : Shared) : Bool := xlAt q [] s && recOk [] s

end Gos
end

section
open PySem PySem.W PyProof.Rows
set_option maxHeartbeats 0
namespace Gos
open PySem PySem.W

noncomputable def recS : Stmt → DefRec
  | .FunctionDef n p b _ _ _ s _ _ pos => ⟨n, p, b, s, pos⟩
  | _ => ⟨"", default, [], fS (.Pass default), default⟩
noncomputable def recD (i : Nat) : DefRec := recS (stAt i)
noncomputable def plainS : Stmt → Bool
  | .FunctionDef _ a _ [] _ [] _ _ _ _ => a.defaults.isEmpty && a.kwonlyargs.isEmpty && a.kw_defaults.isEmpty
  | _ => false
noncomputable def distinctB : List Str → Bool
  | [] => true
  | a :: r => r.all (fun b => !(b == a)) && distinctB r
theorem filter_distinct {α : Type} (f : α → Str) : ∀ {l : List α} {a : α}, distinctB (l.map f) = true → a ∈ l → l.filter (fun b => f b == f a) = [a]
  | [], a, _, h => by cases h
  | b :: r, a, hd, h => by
    obtain ⟨h1, h2⟩ := Bool.and_eq_true_iff.mp (show (((r.map f).all fun y => !(y == f b)) && distinctB (r.map f)) = true from hd)
    have hne : ∀ c ∈ r, (f c == f b) = false := fun c hc => by
      have := List.all_eq_true.mp h1 (f c) (List.mem_map.mpr ⟨c, hc, rfl⟩)
      simpa using this
    rcases List.mem_cons.mp h with rfl | h
    · rw [List.filter_cons, beq_self_eq_true, if_pos rfl]
      rw [List.filter_eq_nil_iff.mpr fun c hc => by rw [hne c hc]; simp]
    · have : (f b == f a) = false := by rw [BEq.comm]; exact hne a h
      rw [List.filter_cons, this]
      exact filter_distinct f h2 h
theorem find_distinct {l : List DefRec} {k : Nat} {d : DefRec} (hd : distinctB (l.map (·.name)) = true) (h : l[k]? = some d) : l.find? (fun e => e.name == d.name) = some d := by
  have := filter_distinct (fun e : DefRec => e.name) hd (List.mem_of_getElem? h)
  rw [← List.head?_filter, this]; rfl
theorem plainS_fn {st : Stmt} (h : plainS st = true) : ∃ n a b r sc t c pos, st = .FunctionDef n a b [] r [] sc t c pos ∧ a.defaults = [] ∧ a.kwonlyargs = [] ∧ a.kw_defaults = [] := by
  unfold plainS at h
  split at h
  · simp only [Bool.and_eq_true, List.isEmpty_iff] at h
    exact ⟨_, _, _, _, _, _, _, _, rfl, h.1.1, h.1.2, h.2⟩
  · cases h
theorem filterMap_all {α β : Type} {f : α → Option β} {g : α → β} : ∀ {l : List α}, (∀ a ∈ l, f a = some (g a)) → l.filterMap f = l.map g
  | [], _ => rfl
  | a :: l, h => by rw [List.filterMap_cons, h a (.head _), List.map_cons, filterMap_all fun b hb => h b (.tail _ hb)]
section
variable {p : Program} (hp : p.main.body.all plainS = true) (hd : distinctB (p.main.body.map fNm) = true)
include hp hd
theorem theDef_plain {n : Str} {a : Arguments} {b : List Stmt} {r : Option Expr} {sc : Scope} {t c pos} (h : Stmt.FunctionDef n a b [] r [] sc t c pos ∈ p.main.body) : p.theDef n = some (a, b, sc) := by
  unfold Program.theDef
  have := filter_distinct fNm hd h
  have e : ∀ (F : Stmt → Bool), (∀ st ∈ p.main.body, F st = (fNm st == n)) → p.main.body.filter F = [Stmt.FunctionDef n a b [] r [] sc t c pos] := fun F hF => (List.filter_congr hF).trans this
  rw [e _ fun st hst => ?_]
  obtain ⟨_, _, _, _, _, _, _, _, rfl, _⟩ := plainS_fn (List.all_eq_true.mp hp st hst)
  rfl
theorem recs_plain : recsOf p = p.main.body.map recS := by
  unfold recsOf
  refine filterMap_all fun st hst => ?_
  obtain ⟨n, a, b, r, sc, t, c, pos, rfl, e1, e2, e3⟩ := plainS_fn (List.all_eq_true.mp hp st hst)
  dsimp only
  rw [theDef_plain hp hd hst]
  dsimp only
  rw [e1, e2, e3]
  rfl
theorem wdefs_plain : wdefsOf p = [] := by
  unfold wdefsOf
  rw [List.filterMap_eq_nil_iff]
  intro st hst
  obtain ⟨n, a, b, r, sc, t, c, pos, rfl, e1, e2, e3⟩ := plainS_fn (List.all_eq_true.mp hp st hst)
  dsimp only
  rw [theDef_plain hp hd hst]
  dsimp only
  rw [e1, e2, e3]
  rfl
theorem drecs_plain : drecsOf p = [] := by
  unfold drecsOf
  rw [List.filterMap_eq_nil_iff]
  intro st hst
  obtain ⟨n, a, b, r, sc, t, c, pos, rfl, e1, e2, e3⟩ := plainS_fn (List.all_eq_true.mp hp st hst)
  dsimp only
  rw [theDef_plain hp hd hst]
  dsimp only
  rw [e1]
omit hd
theorem constW_plain (x : Str) : theConstW p x = none := by
  unfold theConstW
  have e : ∀ (F : Stmt → Bool), (∀ st ∈ p.main.body, F st = false) → p.main.body.filter F = [] := fun F hF => List.filter_eq_nil_iff.mpr fun st hst => by rw [hF st hst]; simp
  rw [e _ fun st hst => ?_]
  obtain ⟨_, _, _, _, _, _, _, _, rfl, _⟩ := plainS_fn (List.all_eq_true.mp hp st hst)
  rfl
theorem wlits_plain : wlitsOf p = [] := by
  unfold wlitsOf
  rw [List.filterMap_eq_nil_iff]
  intro x _
  split
  · rfl
  · rw [constW_plain hp]; rfl
end
noncomputable def recL : List DefRec := defIdx.map recD
theorem qv_plain : qv.main.body.all plainS = true := by kernel_rfl
theorem qv_dist : distinctB (qv.main.body.map fNm) = true := by kernel_rfl
theorem recs_eq : recsOf qv = recL := (recs_plain qv_plain qv_dist).trans (by kernel_rfl)
theorem no_wdefs : wdefsOf qv = [] := wdefs_plain qv_plain qv_dist
theorem no_wlits : wlitsOf qv = [] := wlits_plain qv_plain
theorem no_drecs : drecsOf qv = [] := drecs_plain qv_plain qv_dist
theorem names_ok : distinctB (recL.map (·.name)) = true := by
  have h := qv_dist
  rw [← recs_eq, recs_plain qv_plain qv_dist, List.map_map]
  rw [show qv.main.body.map ((fun x => x.name) ∘ recS) = qv.main.body.map fNm from List.map_congr_left fun st hst => by
    obtain ⟨n, a, b, r, sc, t, c, pos, rfl, e1, e2, e3⟩ := plainS_fn (List.all_eq_true.mp qv_plain st hst)
    rfl]
  exact h
end Gos
end

section
open PySem PySem.W PyProof.Rows
namespace Gos.Ob

open PySem PySem.W
noncomputable def o : Value := .none
noncomputable def b (x : Bool) : Value := .bool x
noncomputable def n (i : Int) : Value := .int i 0
noncomputable def k (i : Int) (t : Tok) : Value := .int i t
noncomputable def s (x : Str) (t : Tok) : Value := .str x t
noncomputable def r (a : Addr) : Value := .ref a
noncomputable def y (T : String) : Value := .type T
noncomputable def u (T : String) : Value := .builtin T
noncomputable def e (x : Str) (t : Tok) (v : Value) (P : Params) : DictEntry := ⟨PyData.keyHash P x, .str x t, v⟩
noncomputable def tu (l : List Value) : Obj := { cls := .type "tuple", data := .seq l.toArray }
noncomputable def li (l : List Value) : Obj := { cls := .type "list", data := .seq l.toArray }
noncomputable def fi (l : List Value) : Obj := { cls := .none, data := .fields l.toArray }
noncomputable def fc (T : String) (l : List Value) : Obj := { cls := .type T, data := .fields l.toArray }
noncomputable def fr (l : List (Option Value)) : Obj := { cls := .type "frame", slots := l.toArray }
noncomputable def di (P : Params) (l : List (Params → DictEntry)) (m : Nat) : Obj := { cls := .type "dict", data := .dict (l.map fun x => x P).toArray m }
noncomputable def dn (P : Params) (l : List (Params → DictEntry)) (m : Nat) : Obj := { cls := .none, data := .dict (l.map fun x => x P).toArray m }
noncomputable def pr (i : Nat) : Obj := { cls := .none, data := .func { name := fNm (stAt i), qualname := fNm (stAt i), params := fP (stAt i), body := .stmts (fB (stAt i)), scope := fS (stAt i), globals := 0, closure := [], defaults := .none, kwdefaults := .none } }
noncomputable def fo (i : Nat) (m : Str) (t c : Nat) : Obj := { cls := .type "function", data := .func { name := fNm (stAt i), qualname := fNm (stAt i), params := fP (stAt i), body := .stmts (fB (stAt i)), scope := fS (stAt i), globals := 3, closure := [], defaults := .none, kwdefaults := .none, pyModule := .str m t, code := .ref c } }
noncomputable def pI : Obj := { cls := .none, data := .func { name := "__init__", qualname := "CasFail.__init__", params := fP initSt, body := .stmts (fB initSt), scope := fS initSt, globals := 0, closure := [], defaults := .none, kwdefaults := .none } }
noncomputable def fI (m : Str) (t c : Nat) : Obj := { cls := .type "function", data := .func { name := "__init__", qualname := "CasFail.__init__", params := fP initSt, body := .stmts (fB initSt), scope := fS initSt, globals := 3, closure := [], defaults := .none, kwdefaults := .none, pyModule := .str m t, code := .ref c } }
noncomputable def cl (nm : Str) (bs mro : List Value) (ns : Addr) (q : Str) (sl : List (Option Value)) : Obj := { cls := .type "type", data := .cls { name := nm, bases := bs, mro := mro, ns := ns, qualname := q }, slots := sl.toArray }

noncomputable def ob0 (P : Params) (t : List Obj) : List Obj :=
  fc "code" [(s "<module>" 182), (s "<module>" 183), (s "/claim/cut.py" 184), (n 1), (n 0), (n 0), (n 0), (n 0), (r 11), (b false), (n 181), (r 12), o, o, o, o, (n 185), (n 1), (s "/claim/cut.py" 186)] ::
  fr [some (r 13), some (r 3), some (r 3), none, some (s "__main__" 164), none, some (r 0)] ::
  tu [(y "Exception")] ::
  fc "builtin_function_or_method" [(u "type.__prepare__"), (y "type")] ::
  di P [(e "__module__" 196 (s "cas.errors" 187)), (e "__qualname__" 198 (s "CasFail" 197)), (e "__firstlineno__" 200 (k 2 199)), (e "__init__" 209 (r 28)), (e "__static_attributes__" 212 (r 29))] 5 ::
  tu [] ::
  fi [(n 4), (n 4), (r 27)] ::
  fc "code" [(s "CasFail" 191), (s "CasFail" 192), (s "/claim/cut.py" 193), (n 2), (n 0), (n 0), (n 0), (n 0), (r 18), (b false), (n 181), (r 19), o, o, o, o, (n 194), (n 2), (s "/claim/cut.py" 195)] ::
  fr [some (r 20), some (r 3), some (r 17), none, some (s "cas.errors" 187), none, some (r 0)] ::
  tu [] ::
  fi [] ::
  tu [(s "self" 204), (s "kind" 205), (s "text" 206)] ::
  tu [] ::
  pI ::
  fc "code" [(s "__init__" 201), (s "CasFail.__init__" 202), (s "/claim/cut.py" 203), (n 4), (n 3), (n 0), (n 0), (n 3), (r 22), (b true), (n 181), (r 23), o, (r 24), (r 25), (r 26), (n 207), (n 4), (s "/claim/cut.py" 208)] ::
  fI "cas.errors" 187 27 ::
  tu [(s "kind" 210), (s "text" 211)] ::
  di P [(e "__module__" 196 (s "cas.errors" 187)), (e "__firstlineno__" 200 (k 2 199)), (e "__init__" 209 (r 28)), (e "__static_attributes__" 212 (r 29)), (e "__weakref__" 214 (r 32)), (e "__doc__" 215 o)] 3 ::
  cl "CasFail" [(y "Exception")] [(r 31), (y "Exception"), (y "BaseException"), (y "object")] 30 "CasFail" [some (r 15), none, some (s "CasFail" 189), some (s "CasFail" 197), some (u "Exception.__new__"), some (b true)] ::
  fc "getset_descriptor" [(s "__weakref__" 213), (r 31), (u "ExceptionGroup.__weakref__"), o] ::
  fc "super" [(r 31), (r 31), (r 31)] ::
  fc "builtin_function_or_method" [(u "object.__init_subclass__"), (r 31)] ::
  tu [] ::
  fi [] ::
  tu [(s "a" 225), (s "b" 226)] ::
  tu [] ::
  pr 3 ::
  fc "code" [(s "gcd" 222), (s "gcd" 223), (s "/claim/cut.py" 224), (n 9), (n 2), (n 0), (n 0), (n 3), (r 35), (b true), (n 181), (r 36), o, (r 37), (r 38), (r 39), (n 227), (n 9), (s "/claim/cut.py" 228)] ::
  fo 3 "cas.ints" 220 40 ::
  tu [] ::
  fi [] ::
  tu [(s "numbers" 233), (s "found" 234), (s "number" 235)] ::
  tu [] ::
  pr 4 ::
  fc "code" [(s "gcd_all" 230), (s "gcd_all" 231), (s "/claim/cut.py" 232), (n 14), (n 1), (n 0), (n 0), (n 3), (r 42), (b true), (n 181), (r 43), o, (r 44), (r 45), (r 46), (n 236), (n 14), (s "/claim/cut.py" 237)] ::
  fo 4 "cas.ints" 220 47 ::
  tu [] ::
  fi [] ::
  tu [(s "n" 242), (s "begin" 243), (s "found" 244)] ::
  tu [] :: t
noncomputable def ob1 (P : Params) (t : List Obj) : List Obj :=
  pr 5 ::
  fc "code" [(s "least_divisor" 239), (s "least_divisor" 240), (s "/claim/cut.py" 241), (n 19), (n 2), (n 0), (n 0), (n 3), (r 49), (b true), (n 181), (r 50), o, (r 51), (r 52), (r 53), (n 245), (n 19), (s "/claim/cut.py" 246)] ::
  fo 5 "cas.ints" 220 54 ::
  tu [] ::
  fi [] ::
  tu [(s "n" 251), (s "found" 252), (s "prime" 253), (s "many" 254)] ::
  tu [] ::
  pr 6 ::
  fc "code" [(s "prime_factors" 248), (s "prime_factors" 249), (s "/claim/cut.py" 250), (n 26), (n 1), (n 0), (n 0), (n 3), (r 56), (b true), (n 181), (r 57), o, (r 58), (r 59), (r 60), (n 255), (n 26), (s "/claim/cut.py" 256)] ::
  fo 6 "cas.ints" 220 61 ::
  tu [] ::
  fi [] ::
  pr 7 ::
  fc "code" [(s "divisors" 258), (s "divisors" 259), (s "/claim/cut.py" 260), (n 35), (n 1), (n 0), (n 0), (n 3), (r 63), (b true), (n 181), (r 64), o, o, o, (r 65), (n 261), (n 35), (s "/claim/cut.py" 262)] ::
  fo 7 "cas.ints" 220 66 ::
  tu [] ::
  fi [] ::
  tu [(s "row" 269), (s "size" 270)] ::
  tu [] ::
  pr 9 ::
  fc "code" [(s "ztrim" 266), (s "ztrim" 267), (s "/claim/cut.py" 268), (n 41), (n 1), (n 0), (n 0), (n 3), (r 68), (b true), (n 181), (r 69), o, (r 70), (r 71), (r 72), (n 271), (n 41), (s "/claim/cut.py" 272)] ::
  fo 9 "cas.zpoly" 264 73 ::
  tu [] ::
  fi [] ::
  tu [(s "p" 277)] ::
  tu [] ::
  pr 10 ::
  fc "code" [(s "zdegree" 274), (s "zdegree" 275), (s "/claim/cut.py" 276), (n 46), (n 1), (n 0), (n 0), (n 3), (r 75), (b true), (n 181), (r 76), o, (r 77), (r 78), (r 79), (n 278), (n 46), (s "/claim/cut.py" 279)] ::
  fo 10 "cas.zpoly" 264 80 ::
  tu [] ::
  fi [] ::
  tu [(s "p" 284)] ::
  tu [] ::
  pr 11 ::
  fc "code" [(s "zlead" 281), (s "zlead" 282), (s "/claim/cut.py" 283), (n 48), (n 1), (n 0), (n 0), (n 3), (r 82), (b true), (n 181), (r 83), o, (r 84), (r 85), (r 86), (n 285), (n 48), (s "/claim/cut.py" 286)] ::
  fo 11 "cas.zpoly" 264 87 ::
  tu [] ::
  fi [] ::
  pr 12 ::
  fc "code" [(s "zadd" 288), (s "zadd" 289), (s "/claim/cut.py" 290), (n 50), (n 2), (n 0), (n 0), (n 3), (r 89), (b true), (n 181), (r 90), o, o, o, (r 91), (n 291), (n 50), (s "/claim/cut.py" 292)] :: t
noncomputable def ob2 (P : Params) (t : List Obj) : List Obj :=
  fo 12 "cas.zpoly" 264 92 ::
  tu [] ::
  fi [] ::
  pr 13 ::
  fc "code" [(s "zneg" 294), (s "zneg" 295), (s "/claim/cut.py" 296), (n 53), (n 1), (n 0), (n 0), (n 3), (r 94), (b true), (n 181), (r 95), o, o, o, (r 96), (n 297), (n 53), (s "/claim/cut.py" 298)] ::
  fo 13 "cas.zpoly" 264 97 ::
  tu [] ::
  fi [] ::
  tu [(s "a" 303), (s "b" 304)] ::
  tu [] ::
  pr 14 ::
  fc "code" [(s "zsub" 300), (s "zsub" 301), (s "/claim/cut.py" 302), (n 55), (n 2), (n 0), (n 0), (n 3), (r 99), (b true), (n 181), (r 100), o, (r 101), (r 102), (r 103), (n 305), (n 55), (s "/claim/cut.py" 306)] ::
  fo 14 "cas.zpoly" 264 104 ::
  tu [] ::
  fi [] ::
  pr 15 ::
  fc "code" [(s "zscale" 308), (s "zscale" 309), (s "/claim/cut.py" 310), (n 57), (n 2), (n 0), (n 0), (n 3), (r 106), (b true), (n 181), (r 107), o, o, o, (r 108), (n 311), (n 57), (s "/claim/cut.py" 312)] ::
  fo 15 "cas.zpoly" 264 109 ::
  tu [] ::
  fi [] ::
  tu [(s "p" 317), (s "many" 318)] ::
  tu [] ::
  pr 16 ::
  fc "code" [(s "zraise" 314), (s "zraise" 315), (s "/claim/cut.py" 316), (n 59), (n 2), (n 0), (n 0), (n 3), (r 111), (b true), (n 181), (r 112), o, (r 113), (r 114), (r 115), (n 319), (n 59), (s "/claim/cut.py" 320)] ::
  fo 16 "cas.zpoly" 264 116 ::
  tu [] ::
  fi [] ::
  tu [(s "a" 325), (s "b" 326), (s "found" 327), (s "one" 328), (s "left" 329), (s "other" 330), (s "right" 331)] ::
  tu [] ::
  pr 17 ::
  fc "code" [(s "zmul" 322), (s "zmul" 323), (s "/claim/cut.py" 324), (n 61), (n 2), (n 0), (n 0), (n 3), (r 118), (b true), (n 181), (r 119), o, (r 120), (r 121), (r 122), (n 332), (n 61), (s "/claim/cut.py" 333)] ::
  fo 17 "cas.zpoly" 264 123 ::
  tu [] ::
  fi [] ::
  tu [(s "p" 338)] ::
  tu [] ::
  pr 18 ::
  fc "code" [(s "zcontent" 335), (s "zcontent" 336), (s "/claim/cut.py" 337), (n 70), (n 1), (n 0), (n 0), (n 3), (r 125), (b true), (n 181), (r 126), o, (r 127), (r 128), (r 129), (n 339), (n 70), (s "/claim/cut.py" 340)] ::
  fo 18 "cas.zpoly" 264 130 ::
  tu [] :: t
noncomputable def ob3 (P : Params) (t : List Obj) : List Obj :=
  fi [] ::
  pr 19 ::
  fc "code" [(s "zdivided" 342), (s "zdivided" 343), (s "/claim/cut.py" 344), (n 72), (n 2), (n 0), (n 0), (n 3), (r 132), (b true), (n 181), (r 133), o, o, o, (r 134), (n 345), (n 72), (s "/claim/cut.py" 346)] ::
  fo 19 "cas.zpoly" 264 135 ::
  tu [] ::
  fi [] ::
  tu [(s "p" 351), (s "content" 352)] ::
  tu [] ::
  pr 20 ::
  fc "code" [(s "zprimitive" 348), (s "zprimitive" 349), (s "/claim/cut.py" 350), (n 74), (n 1), (n 0), (n 0), (n 3), (r 137), (b true), (n 181), (r 138), o, (r 139), (r 140), (r 141), (n 353), (n 74), (s "/claim/cut.py" 354)] ::
  fo 20 "cas.zpoly" 264 142 ::
  tu [] ::
  fi [] ::
  pr 21 ::
  fc "code" [(s "zderive" 356), (s "zderive" 357), (s "/claim/cut.py" 358), (n 79), (n 1), (n 0), (n 0), (n 3), (r 144), (b true), (n 181), (r 145), o, o, o, (r 146), (n 359), (n 79), (s "/claim/cut.py" 360)] ::
  fo 21 "cas.zpoly" 264 147 ::
  tu [] ::
  fi [] ::
  tu [(s "p" 365), (s "n" 366), (s "found" 367), (s "number" 368)] ::
  tu [] ::
  pr 22 ::
  fc "code" [(s "zat" 362), (s "zat" 363), (s "/claim/cut.py" 364), (n 81), (n 2), (n 0), (n 0), (n 3), (r 149), (b true), (n 181), (r 150), o, (r 151), (r 152), (r 153), (n 369), (n 81), (s "/claim/cut.py" 370)] ::
  fo 22 "cas.zpoly" 264 154 ::
  tu [] ::
  fi [] ::
  tu [(s "p" 375), (s "n" 376), (s "found" 377), (s "low" 378), (s "at" 379)] ::
  tu [] ::
  pr 23 ::
  fc "code" [(s "zshift" 372), (s "zshift" 373), (s "/claim/cut.py" 374), (n 86), (n 2), (n 0), (n 0), (n 3), (r 156), (b true), (n 181), (r 157), o, (r 158), (r 159), (r 160), (n 380), (n 86), (s "/claim/cut.py" 381)] ::
  fo 23 "cas.zpoly" 264 161 ::
  tu [] ::
  fi [] ::
  tu [(s "p" 388)] ::
  tu [] ::
  pr 25 ::
  fc "code" [(s "check_bottom" 385), (s "check_bottom" 386), (s "/claim/cut.py" 387), (n 93), (n 1), (n 0), (n 0), (n 3), (r 163), (b true), (n 181), (r 164), o, (r 165), (r 166), (r 167), (n 389), (n 93), (s "/claim/cut.py" 390)] ::
  fo 25 "cas.zdiv" 383 168 ::
  tu [] ::
  fi [] ::
  tu [(s "a" 395), (s "b" 396), (s "rest" 397), (s "found" 398), (s "number" 399), (s "power" 400)] :: t
noncomputable def ob4 (P : Params) (t : List Obj) : List Obj :=
  tu [] ::
  pr 26 ::
  fc "code" [(s "zexact" 392), (s "zexact" 393), (s "/claim/cut.py" 394), (n 96), (n 2), (n 0), (n 0), (n 3), (r 170), (b true), (n 181), (r 171), o, (r 172), (r 173), (r 174), (n 401), (n 96), (s "/claim/cut.py" 402)] ::
  fo 26 "cas.zdiv" 383 175 ::
  tu [] ::
  fi [] ::
  tu [(s "a" 407), (s "b" 408), (s "many" 409), (s "rest" 410), (s "found" 411), (s "left" 412), (s "first" 413), (s "number" 414), (s "power" 415), (s "more" 416)] ::
  tu [] ::
  pr 27 ::
  fc "code" [(s "pseudo" 404), (s "pseudo" 405), (s "/claim/cut.py" 406), (n 106), (n 2), (n 0), (n 0), (n 3), (r 177), (b true), (n 181), (r 178), o, (r 179), (r 180), (r 181), (n 417), (n 106), (s "/claim/cut.py" 418)] ::
  fo 27 "cas.zdiv" 383 182 ::
  tu [] ::
  fi [] ::
  tu [(s "a" 423), (s "b" 424)] ::
  tu [] ::
  pr 28 ::
  fc "code" [(s "zpseudo_rest" 420), (s "zpseudo_rest" 421), (s "/claim/cut.py" 422), (n 117), (n 2), (n 0), (n 0), (n 3), (r 184), (b true), (n 181), (r 185), o, (r 186), (r 187), (r 188), (n 425), (n 117), (s "/claim/cut.py" 426)] ::
  fo 28 "cas.zdiv" 383 189 ::
  tu [] ::
  fi [] ::
  pr 30 ::
  fc "code" [(s "divided" 430), (s "divided" 431), (s "/claim/cut.py" 432), (n 120), (n 2), (n 0), (n 0), (n 3), (r 191), (b true), (n 181), (r 192), o, o, o, (r 193), (n 433), (n 120), (s "/claim/cut.py" 434)] ::
  fo 30 "cas.resultants" 428 194 ::
  tu [] ::
  fi [] ::
  pr 31 ::
  fc "code" [(s "full_rest" 436), (s "full_rest" 437), (s "/claim/cut.py" 438), (n 122), (n 2), (n 0), (n 0), (n 3), (r 196), (b true), (n 181), (r 197), o, o, o, (r 198), (n 439), (n 122), (s "/claim/cut.py" 440)] ::
  fo 31 "cas.resultants" 428 199 ::
  tu [] ::
  fi [] ::
  tu [(s "a" 445), (s "b" 446), (s "sign" 447), (s "g" 448), (s "h" 449), (s "gap" 450), (s "rest" 451), (s "many" 452)] ::
  tu [] ::
  pr 32 ::
  fc "code" [(s "row_resultant" 442), (s "row_resultant" 443), (s "/claim/cut.py" 444), (n 126), (n 3), (n 0), (n 0), (n 3), (r 201), (b true), (n 181), (r 202), o, (r 203), (r 204), (r 205), (n 453), (n 126), (s "/claim/cut.py" 454)] ::
  fo 32 "cas.resultants" 428 206 ::
  tu [] ::
  fi [] ::
  tu [(s "a" 459), (s "b" 460), (s "sign" 461), (s "one" 462), (s "other" 463), (s "shared" 464)] ::
  tu [] ::
  pr 33 :: t
noncomputable def ob5 (P : Params) (t : List Obj) : List Obj :=
  fc "code" [(s "resultant" 456), (s "resultant" 457), (s "/claim/cut.py" 458), (n 141), (n 2), (n 0), (n 0), (n 3), (r 208), (b true), (n 181), (r 209), o, (r 210), (r 211), (r 212), (n 465), (n 141), (s "/claim/cut.py" 466)] ::
  fo 33 "cas.resultants" 428 213 ::
  tu [(k 0 470), (k 1 471)] ::
  tu [(k 1 473), (k 1 474)] ::
  tu [] ::
  fi [] ::
  tu [(s "top" 479), (s "bottom" 480), (s "g" 481)] ::
  tu [] ::
  pr 37 ::
  fc "code" [(s "rat" 476), (s "rat" 477), (s "/claim/cut.py" 478), (n 154), (n 2), (n 0), (n 0), (n 3), (r 217), (b true), (n 181), (r 218), o, (r 219), (r 220), (r 221), (n 482), (n 154), (s "/claim/cut.py" 483)] ::
  fo 37 "cas.rats" 468 222 ::
  tu [] ::
  fi [] ::
  tu [(s "a" 488), (s "b" 489)] ::
  tu [] ::
  pr 38 ::
  fc "code" [(s "radd" 485), (s "radd" 486), (s "/claim/cut.py" 487), (n 159), (n 2), (n 0), (n 0), (n 3), (r 224), (b true), (n 181), (r 225), o, (r 226), (r 227), (r 228), (n 490), (n 159), (s "/claim/cut.py" 491)] ::
  fo 38 "cas.rats" 468 229 ::
  tu [] ::
  fi [] ::
  tu [(s "a" 496), (s "b" 497)] ::
  tu [] ::
  pr 39 ::
  fc "code" [(s "rsub" 493), (s "rsub" 494), (s "/claim/cut.py" 495), (n 161), (n 2), (n 0), (n 0), (n 3), (r 231), (b true), (n 181), (r 232), o, (r 233), (r 234), (r 235), (n 498), (n 161), (s "/claim/cut.py" 499)] ::
  fo 39 "cas.rats" 468 236 ::
  tu [] ::
  fi [] ::
  tu [(s "a" 504), (s "b" 505)] ::
  tu [] ::
  pr 40 ::
  fc "code" [(s "rmul" 501), (s "rmul" 502), (s "/claim/cut.py" 503), (n 163), (n 2), (n 0), (n 0), (n 3), (r 238), (b true), (n 181), (r 239), o, (r 240), (r 241), (r 242), (n 506), (n 163), (s "/claim/cut.py" 507)] ::
  fo 40 "cas.rats" 468 243 ::
  tu [] ::
  fi [] ::
  tu [(s "a" 512), (s "b" 513)] ::
  tu [] ::
  pr 41 ::
  fc "code" [(s "rdiv" 509), (s "rdiv" 510), (s "/claim/cut.py" 511), (n 165), (n 2), (n 0), (n 0), (n 3), (r 245), (b true), (n 181), (r 246), o, (r 247), (r 248), (r 249), (n 514), (n 165), (s "/claim/cut.py" 515)] ::
  fo 41 "cas.rats" 468 250 ::
  tu [] :: t
noncomputable def ob6 (P : Params) (t : List Obj) : List Obj :=
  fi [] ::
  tu [(s "a" 520)] ::
  tu [] ::
  pr 42 ::
  fc "code" [(s "rneg" 517), (s "rneg" 518), (s "/claim/cut.py" 519), (n 167), (n 1), (n 0), (n 0), (n 3), (r 252), (b true), (n 181), (r 253), o, (r 254), (r 255), (r 256), (n 521), (n 167), (s "/claim/cut.py" 522)] ::
  fo 42 "cas.rats" 468 257 ::
  tu [] ::
  fi [] ::
  tu [(s "a" 527)] ::
  tu [] ::
  pr 43 ::
  fc "code" [(s "rinv" 524), (s "rinv" 525), (s "/claim/cut.py" 526), (n 169), (n 1), (n 0), (n 0), (n 3), (r 259), (b true), (n 181), (r 260), o, (r 261), (r 262), (r 263), (n 528), (n 169), (s "/claim/cut.py" 529)] ::
  fo 43 "cas.rats" 468 264 ::
  tu [] ::
  fi [] ::
  tu [(s "a" 534), (s "b" 535), (s "off" 536)] ::
  tu [] ::
  pr 44 ::
  fc "code" [(s "rcompare" 531), (s "rcompare" 532), (s "/claim/cut.py" 533), (n 171), (n 2), (n 0), (n 0), (n 3), (r 266), (b true), (n 181), (r 267), o, (r 268), (r 269), (r 270), (n 537), (n 171), (s "/claim/cut.py" 538)] ::
  fo 44 "cas.rats" 468 271 ::
  tu [] ::
  fi [] ::
  tu [(s "a" 543)] ::
  tu [] ::
  pr 45 ::
  fc "code" [(s "rfloor" 540), (s "rfloor" 541), (s "/claim/cut.py" 542), (n 174), (n 1), (n 0), (n 0), (n 3), (r 273), (b true), (n 181), (r 274), o, (r 275), (r 276), (r 277), (n 544), (n 174), (s "/claim/cut.py" 545)] ::
  fo 45 "cas.rats" 468 278 ::
  tu [] ::
  fi [] ::
  tu [(s "a" 550)] ::
  tu [] ::
  pr 46 ::
  fc "code" [(s "ris_whole" 547), (s "ris_whole" 548), (s "/claim/cut.py" 549), (n 176), (n 1), (n 0), (n 0), (n 3), (r 280), (b true), (n 181), (r 281), o, (r 282), (r 283), (r 284), (n 551), (n 176), (s "/claim/cut.py" 552)] ::
  fo 46 "cas.rats" 468 285 ::
  tu [] ::
  fi [] ::
  tu [(s "front" 559), (s "step" 560), (s "height" 561)] ::
  tu [] ::
  pr 48 ::
  fc "code" [(s "next_height" 556), (s "next_height" 557), (s "/claim/cut.py" 558), (n 179), (n 3), (n 0), (n 0), (n 3), (r 287), (b true), (n 181), (r 288), o, (r 289), (r 290), (r 291), (n 562), (n 179), (s "/claim/cut.py" 563)] :: t
noncomputable def ob7 (P : Params) (t : List Obj) : List Obj :=
  fo 48 "cas.zgcd" 554 292 ::
  tu [] ::
  fi [] ::
  tu [(s "a" 568), (s "b" 569), (s "row" 570), (s "front" 571), (s "height" 572), (s "step" 573), (s "rest" 574)] ::
  tu [] ::
  pr 49 ::
  fc "code" [(s "subresultants" 565), (s "subresultants" 566), (s "/claim/cut.py" 567), (n 183), (n 2), (n 0), (n 0), (n 3), (r 294), (b true), (n 181), (r 295), o, (r 296), (r 297), (r 298), (n 575), (n 183), (s "/claim/cut.py" 576)] ::
  fo 49 "cas.zgcd" 554 299 ::
  tu [] ::
  fi [] ::
  tu [(s "a" 581), (s "b" 582), (s "only" 583), (s "number" 584), (s "last" 585)] ::
  tu [] ::
  pr 50 ::
  fc "code" [(s "zgcd" 578), (s "zgcd" 579), (s "/claim/cut.py" 580), (n 197), (n 2), (n 0), (n 0), (n 3), (r 301), (b true), (n 181), (r 302), o, (r 303), (r 304), (r 305), (n 586), (n 197), (s "/claim/cut.py" 587)] ::
  fo 50 "cas.zgcd" 554 306 ::
  tu [] ::
  fi [] ::
  tu [(s "number" 594)] ::
  tu [] ::
  pr 52 ::
  fc "code" [(s "sign_of" 591), (s "sign_of" 592), (s "/claim/cut.py" 593), (n 205), (n 1), (n 0), (n 0), (n 3), (r 308), (b true), (n 181), (r 309), o, (r 310), (r 311), (r 312), (n 595), (n 205), (s "/claim/cut.py" 596)] ::
  fo 52 "cas.sturm" 589 313 ::
  tu [] ::
  fi [] ::
  tu [(s "p" 601), (s "x" 602), (s "top" 603), (s "bottom" 604), (s "found" 605), (s "scale" 606), (s "coefficient" 607)] ::
  tu [] ::
  pr 53 ::
  fc "code" [(s "value_sign" 598), (s "value_sign" 599), (s "/claim/cut.py" 600), (n 207), (n 2), (n 0), (n 0), (n 3), (r 315), (b true), (n 181), (r 316), o, (r 317), (r 318), (r 319), (n 608), (n 207), (s "/claim/cut.py" 609)] ::
  fo 53 "cas.sturm" 589 320 ::
  tu [] ::
  fi [] ::
  tu [(s "p" 614), (s "end" 615), (s "found" 616)] ::
  tu [] ::
  pr 54 ::
  fc "code" [(s "end_sign" 611), (s "end_sign" 612), (s "/claim/cut.py" 613), (n 214), (n 2), (n 0), (n 0), (n 3), (r 322), (b true), (n 181), (r 323), o, (r 324), (r 325), (r 326), (n 617), (n 214), (s "/claim/cut.py" 618)] ::
  fo 54 "cas.sturm" 589 327 ::
  tu [] ::
  fi [] ::
  tu [(s "p" 623), (s "x" 624)] ::
  tu [] :: t
noncomputable def ob8 (P : Params) (t : List Obj) : List Obj :=
  pr 55 ::
  fc "code" [(s "sign_at" 620), (s "sign_at" 621), (s "/claim/cut.py" 622), (n 219), (n 2), (n 0), (n 0), (n 3), (r 329), (b true), (n 181), (r 330), o, (r 331), (r 332), (r 333), (n 625), (n 219), (s "/claim/cut.py" 626)] ::
  fo 55 "cas.sturm" 589 334 ::
  tu [] ::
  fi [] ::
  tu [(s "f" 631), (s "common" 632)] ::
  tu [] ::
  pr 56 ::
  fc "code" [(s "simple_part" 628), (s "simple_part" 629), (s "/claim/cut.py" 630), (n 221), (n 1), (n 0), (n 0), (n 3), (r 336), (b true), (n 181), (r 337), o, (r 338), (r 339), (r 340), (n 633), (n 221), (s "/claim/cut.py" 634)] ::
  fo 56 "cas.sturm" 589 341 ::
  tu [] ::
  fi [] ::
  pr 57 ::
  fc "code" [(s "lessened" 636), (s "lessened" 637), (s "/claim/cut.py" 638), (n 224), (n 1), (n 0), (n 0), (n 3), (r 343), (b true), (n 181), (r 344), o, o, o, (r 345), (n 639), (n 224), (s "/claim/cut.py" 640)] ::
  fo 57 "cas.sturm" 589 346 ::
  tu [] ::
  fi [] ::
  tu [(s "a" 645), (s "b" 646), (s "quotient" 647), (s "rest" 648), (s "power" 649)] ::
  tu [] ::
  pr 58 ::
  fc "code" [(s "next_of_row" 642), (s "next_of_row" 643), (s "/claim/cut.py" 644), (n 227), (n 2), (n 0), (n 0), (n 3), (r 348), (b true), (n 181), (r 349), o, (r 350), (r 351), (r 352), (n 650), (n 227), (s "/claim/cut.py" 651)] ::
  fo 58 "cas.sturm" 589 353 ::
  tu [] ::
  fi [] ::
  tu [(s "f" 656), (s "found" 657), (s "later" 658)] ::
  tu [] ::
  pr 59 ::
  fc "code" [(s "sturm_row" 653), (s "sturm_row" 654), (s "/claim/cut.py" 655), (n 232), (n 1), (n 0), (n 0), (n 3), (r 355), (b true), (n 181), (r 356), o, (r 357), (r 358), (r 359), (n 659), (n 232), (s "/claim/cut.py" 660)] ::
  fo 59 "cas.sturm" 589 360 ::
  tu [] ::
  fi [] ::
  pr 60 ::
  fc "code" [(s "changes_at" 662), (s "changes_at" 663), (s "/claim/cut.py" 664), (n 238), (n 2), (n 0), (n 0), (n 3), (r 362), (b true), (n 181), (r 363), o, o, o, (r 364), (n 665), (n 238), (s "/claim/cut.py" 666)] ::
  fo 60 "cas.sturm" 589 365 ::
  tu [] ::
  fi [] ::
  tu [(s "row" 671), (s "low" 672), (s "high" 673)] ::
  tu [] ::
  pr 61 ::
  fc "code" [(s "count_by_row" 668), (s "count_by_row" 669), (s "/claim/cut.py" 670), (n 242), (n 3), (n 0), (n 0), (n 3), (r 367), (b true), (n 181), (r 368), o, (r 369), (r 370), (r 371), (n 674), (n 242), (s "/claim/cut.py" 675)] :: t
noncomputable def ob9 (P : Params) (t : List Obj) : List Obj :=
  fo 61 "cas.sturm" 589 372 ::
  tu [] ::
  fi [] ::
  pr 62 ::
  fc "code" [(s "root_bound" 677), (s "root_bound" 678), (s "/claim/cut.py" 679), (n 244), (n 1), (n 0), (n 0), (n 3), (r 374), (b true), (n 181), (r 375), o, o, o, (r 376), (n 680), (n 244), (s "/claim/cut.py" 681)] ::
  fo 62 "cas.sturm" 589 377 ::
  tu [(k 1 685), (k 2 686)] ::
  tu [] ::
  fi [] ::
  tu [(s "low" 695), (s "high" 696)] ::
  tu [] ::
  pr 66 ::
  fc "code" [(s "middle" 692), (s "middle" 693), (s "/claim/cut.py" 694), (n 250), (n 2), (n 0), (n 0), (n 3), (r 380), (b true), (n 181), (r 381), o, (r 382), (r 383), (r 384), (n 697), (n 250), (s "/claim/cut.py" 698)] ::
  fo 66 "cas.roots" 683 385 ::
  tu [] ::
  fi [] ::
  tu [(s "x" 703)] ::
  tu [] ::
  pr 67 ::
  fc "code" [(s "linear_of" 700), (s "linear_of" 701), (s "/claim/cut.py" 702), (n 252), (n 1), (n 0), (n 0), (n 3), (r 387), (b true), (n 181), (r 388), o, (r 389), (r 390), (r 391), (n 704), (n 252), (s "/claim/cut.py" 705)] ::
  fo 67 "cas.roots" 683 392 ::
  tu [] ::
  fi [] ::
  tu [(s "x" 710), (s "interval" 711)] ::
  tu [] ::
  pr 68 ::
  fc "code" [(s "is_inside" 707), (s "is_inside" 708), (s "/claim/cut.py" 709), (n 254), (n 2), (n 0), (n 0), (n 3), (r 394), (b true), (n 181), (r 395), o, (r 396), (r 397), (r 398), (n 712), (n 254), (s "/claim/cut.py" 713)] ::
  fo 68 "cas.roots" 683 399 ::
  tu [] ::
  fi [] ::
  tu [(s "f" 718), (s "row" 719), (s "bound" 720), (s "waiting" 721), (s "found" 722), (s "low" 723), (s "high" 724), (s "many" 725), (s "x" 726)] ::
  tu [] ::
  pr 69 ::
  fc "code" [(s "split_roots" 715), (s "split_roots" 716), (s "/claim/cut.py" 717), (n 256), (n 1), (n 0), (n 0), (n 3), (r 401), (b true), (n 181), (r 402), o, (r 403), (r 404), (r 405), (n 727), (n 256), (s "/claim/cut.py" 728)] ::
  fo 69 "cas.roots" 683 406 ::
  tu [] ::
  fi [] ::
  pr 70 ::
  fc "code" [(s "isolate" 730), (s "isolate" 731), (s "/claim/cut.py" 732), (n 271), (n 1), (n 0), (n 0), (n 3), (r 408), (b true), (n 181), (r 409), o, o, o, (r 410), (n 733), (n 271), (s "/claim/cut.py" 734)] ::
  fo 70 "cas.roots" 683 411 :: t
noncomputable def ob10 (P : Params) (t : List Obj) : List Obj :=
  tu [] ::
  fi [] ::
  pr 71 ::
  fc "code" [(s "kept_off" 736), (s "kept_off" 737), (s "/claim/cut.py" 738), (n 282), (n 3), (n 0), (n 0), (n 3), (r 413), (b true), (n 181), (r 414), o, o, o, (r 415), (n 739), (n 282), (s "/claim/cut.py" 740)] ::
  fo 71 "cas.roots" 683 416 ::
  tu [] ::
  fi [] ::
  tu [(s "pieces" 745), (s "found" 746), (s "piece" 747), (s "at" 748)] ::
  tu [] ::
  pr 72 ::
  fc "code" [(s "sorted_intervals" 742), (s "sorted_intervals" 743), (s "/claim/cut.py" 744), (n 286), (n 1), (n 0), (n 0), (n 3), (r 418), (b true), (n 181), (r 419), o, (r 420), (r 421), (r 422), (n 749), (n 286), (s "/claim/cut.py" 750)] ::
  fo 72 "cas.roots" 683 423 ::
  tu [] ::
  fi [] ::
  tu [(s "f" 755), (s "interval" 756), (s "low" 757), (s "high" 758), (s "x" 759), (s "here" 760)] ::
  tu [] ::
  pr 73 ::
  fc "code" [(s "halved" 752), (s "halved" 753), (s "/claim/cut.py" 754), (n 294), (n 2), (n 0), (n 0), (n 3), (r 425), (b true), (n 181), (r 426), o, (r 427), (r 428), (r 429), (n 761), (n 294), (s "/claim/cut.py" 762)] ::
  fo 73 "cas.roots" 683 430 ::
  tu [] ::
  fi [] ::
  tu [(s "f" 767), (s "interval" 768), (s "width" 769), (s "left" 770)] ::
  tu [] ::
  pr 74 ::
  fc "code" [(s "refine" 764), (s "refine" 765), (s "/claim/cut.py" 766), (n 301), (n 3), (n 0), (n 0), (n 3), (r 432), (b true), (n 181), (r 433), o, (r 434), (r 435), (r 436), (n 771), (n 301), (s "/claim/cut.py" 772)] ::
  fo 74 "cas.roots" 683 437 ::
  tu [] ::
  fi [] ::
  tu [(s "f" 777), (s "left" 778), (s "found" 779), (s "x" 780), (s "many" 781)] ::
  tu [] ::
  pr 75 ::
  fc "code" [(s "rational_roots" 774), (s "rational_roots" 775), (s "/claim/cut.py" 776), (n 308), (n 1), (n 0), (n 0), (n 3), (r 439), (b true), (n 181), (r 440), o, (r 441), (r 442), (r 443), (n 782), (n 308), (s "/claim/cut.py" 783)] ::
  fo 75 "cas.roots" 683 444 ::
  tu [] ::
  fi [] ::
  tu [(s "f" 788), (s "found" 789), (s "lead" 790), (s "interval" 791), (s "high" 792)] ::
  tu [] ::
  pr 76 ::
  fc "code" [(s "tried_roots" 785), (s "tried_roots" 786), (s "/claim/cut.py" 787), (n 322), (n 1), (n 0), (n 0), (n 3), (r 446), (b true), (n 181), (r 447), o, (r 448), (r 449), (r 450), (n 793), (n 322), (s "/claim/cut.py" 794)] ::
  fo 76 "cas.roots" 683 451 :: t
noncomputable def ob11 (P : Params) (t : List Obj) : List Obj :=
  tu [] ::
  fi [] ::
  tu [(s "f" 799), (s "met" 800), (s "found" 801), (s "bottoms" 802), (s "top" 803), (s "bottom" 804), (s "x" 805)] ::
  tu [] ::
  pr 77 ::
  fc "code" [(s "candidates" 796), (s "candidates" 797), (s "/claim/cut.py" 798), (n 332), (n 1), (n 0), (n 0), (n 3), (r 453), (b true), (n 181), (r 454), o, (r 455), (r 456), (r 457), (n 806), (n 332), (s "/claim/cut.py" 807)] ::
  fo 77 "cas.roots" 683 458 ::
  tu [] ::
  fi [] ::
  tu [(s "pairs" 812), (s "found" 813), (s "pair" 814), (s "at" 815)] ::
  tu [] ::
  pr 78 ::
  fc "code" [(s "sorted_roots" 809), (s "sorted_roots" 810), (s "/claim/cut.py" 811), (n 343), (n 1), (n 0), (n 0), (n 3), (r 460), (b true), (n 181), (r 461), o, (r 462), (r 463), (r 464), (n 816), (n 343), (s "/claim/cut.py" 817)] ::
  fo 78 "cas.roots" 683 465 ::
  tu [] ::
  fi [] ::
  pr 84 ::
  fc "code" [(s "first_differences" 833), (s "first_differences" 834), (s "/claim/cut.py" 835), (n 356), (n 1), (n 0), (n 0), (n 3), (r 467), (b true), (n 181), (r 468), o, o, o, (r 469), (n 836), (n 356), (s "/claim/cut.py" 837)] ::
  fo 84 "cas.dispersion" 819 470 ::
  tu [] ::
  fi [] ::
  tu [(s "differences" 842), (s "last" 843), (s "row" 844), (s "found" 845), (s "place" 846), (s "at" 847)] ::
  tu [] ::
  pr 85 ::
  fc "code" [(s "zeros_on" 839), (s "zeros_on" 840), (s "/claim/cut.py" 841), (n 362), (n 2), (n 0), (n 0), (n 3), (r 472), (b true), (n 181), (r 473), o, (r 474), (r 475), (r 476), (n 848), (n 362), (s "/claim/cut.py" 849)] ::
  fo 85 "cas.dispersion" 819 477 ::
  tu [] ::
  fi [] ::
  tu [(s "differences" 854), (s "found" 855), (s "below" 856), (s "at" 857)] ::
  tu [] ::
  pr 86 ::
  fc "code" [(s "told_by" 851), (s "told_by" 852), (s "/claim/cut.py" 853), (n 370), (n 1), (n 0), (n 0), (n 3), (r 479), (b true), (n 181), (r 480), o, (r 481), (r 482), (r 483), (n 858), (n 370), (s "/claim/cut.py" 859)] ::
  fo 86 "cas.dispersion" 819 484 ::
  tu [] ::
  fi [] ::
  pr 87 ::
  fc "code" [(s "whole_zeros" 861), (s "whole_zeros" 862), (s "/claim/cut.py" 863), (n 376), (n 2), (n 0), (n 0), (n 3), (r 486), (b true), (n 181), (r 487), o, o, o, (r 488), (n 864), (n 376), (s "/claim/cut.py" 865)] ::
  fo 87 "cas.dispersion" 819 489 ::
  tu [] ::
  fi [] :: t
noncomputable def ob12 (P : Params) (t : List Obj) : List Obj :=
  pr 88 ::
  fc "code" [(s "roots_within" 867), (s "roots_within" 868), (s "/claim/cut.py" 869), (n 383), (n 1), (n 0), (n 0), (n 3), (r 491), (b true), (n 181), (r 492), o, o, o, (r 493), (n 870), (n 383), (s "/claim/cut.py" 871)] ::
  fo 88 "cas.dispersion" 819 494 ::
  tu [] ::
  fi [] ::
  pr 89 ::
  fc "code" [(s "dispersions" 873), (s "dispersions" 874), (s "/claim/cut.py" 875), (n 388), (n 2), (n 0), (n 0), (n 3), (r 496), (b true), (n 181), (r 497), o, o, o, (r 498), (n 876), (n 388), (s "/claim/cut.py" 877)] ::
  fo 89 "cas.dispersion" 819 499 ::
  tu [] ::
  fi [] ::
  tu [(s "a" 884)] ::
  tu [] ::
  pr 91 ::
  fc "code" [(s "shape" 881), (s "shape" 882), (s "/claim/cut.py" 883), (n 400), (n 1), (n 0), (n 0), (n 3), (r 501), (b true), (n 181), (r 502), o, (r 503), (r 504), (r 505), (n 885), (n 400), (s "/claim/cut.py" 886)] ::
  fo 91 "cas.mat" 879 506 ::
  tu [] ::
  fi [] ::
  tu [(s "is_right" 891), (s "text" 892)] ::
  tu [] ::
  pr 92 ::
  fc "code" [(s "need_shape" 888), (s "need_shape" 889), (s "/claim/cut.py" 890), (n 402), (n 2), (n 0), (n 0), (n 3), (r 508), (b true), (n 181), (r 509), o, (r 510), (r 511), (r 512), (n 893), (n 402), (s "/claim/cut.py" 894)] ::
  fo 92 "cas.mat" 879 513 ::
  tu [] ::
  fi [] ::
  pr 93 ::
  fc "code" [(s "copied" 896), (s "copied" 897), (s "/claim/cut.py" 898), (n 405), (n 1), (n 0), (n 0), (n 3), (r 515), (b true), (n 181), (r 516), o, o, o, (r 517), (n 899), (n 405), (s "/claim/cut.py" 900)] ::
  fo 93 "cas.mat" 879 518 ::
  tu [] ::
  fi [] ::
  tu [(s "a" 905), (s "one" 906), (s "other" 907)] ::
  tu [] ::
  pr 94 ::
  fc "code" [(s "swap_rows" 902), (s "swap_rows" 903), (s "/claim/cut.py" 904), (n 407), (n 3), (n 0), (n 0), (n 3), (r 520), (b true), (n 181), (r 521), o, (r 522), (r 523), (r 524), (n 908), (n 407), (s "/claim/cut.py" 909)] ::
  fo 94 "cas.mat" 879 525 ::
  tu [] ::
  fi [] ::
  pr 95 ::
  fc "code" [(s "take_off" 911), (s "take_off" 912), (s "/claim/cut.py" 913), (n 409), (n 4), (n 0), (n 0), (n 3), (r 527), (b true), (n 181), (r 528), o, o, o, (r 529), (n 914), (n 409), (s "/claim/cut.py" 915)] ::
  fo 95 "cas.mat" 879 530 ::
  tu [] :: t
noncomputable def ob13 (P : Params) (t : List Obj) : List Obj :=
  fi [] ::
  pr 96 ::
  fc "code" [(s "echelon" 917), (s "echelon" 918), (s "/claim/cut.py" 919), (n 411), (n 1), (n 0), (n 0), (n 3), (r 532), (b true), (n 181), (r 533), o, o, o, (r 534), (n 920), (n 411), (s "/claim/cut.py" 921)] ::
  fo 96 "cas.mat" 879 535 ::
  tu [] ::
  fi [] ::
  tu [(s "a" 928), (s "reduced" 929), (s "pivots" 930), (s "found" 931), (s "column" 932), (s "one" 933), (s "at" 934), (s "spot" 935)] ::
  tu [] ::
  pr 98 ::
  fc "code" [(s "null_base" 925), (s "null_base" 926), (s "/claim/cut.py" 927), (n 427), (n 1), (n 0), (n 0), (n 3), (r 537), (b true), (n 181), (r 538), o, (r 539), (r 540), (r 541), (n 936), (n 427), (s "/claim/cut.py" 937)] ::
  fo 98 "cas.linear" 923 542 ::
  tu [] ::
  fi [] ::
  pr 99 ::
  fc "code" [(s "solve_system" 939), (s "solve_system" 940), (s "/claim/cut.py" 941), (n 439), (n 2), (n 0), (n 0), (n 3), (r 544), (b true), (n 181), (r 545), o, o, o, (r 546), (n 942), (n 439), (s "/claim/cut.py" 943)] ::
  fo 99 "cas.linear" 923 547 ::
  tu [] ::
  fi [] ::
  tu [(s "row" 950), (s "size" 951)] ::
  tu [] ::
  pr 101 ::
  fc "code" [(s "qtrim" 947), (s "qtrim" 948), (s "/claim/cut.py" 949), (n 450), (n 1), (n 0), (n 0), (n 3), (r 549), (b true), (n 181), (r 550), o, (r 551), (r 552), (r 553), (n 952), (n 450), (s "/claim/cut.py" 953)] ::
  fo 101 "cas.qpoly" 945 554 ::
  tu [] ::
  fi [] ::
  tu [(s "p" 958)] ::
  tu [] ::
  pr 102 ::
  fc "code" [(s "qdegree" 955), (s "qdegree" 956), (s "/claim/cut.py" 957), (n 455), (n 1), (n 0), (n 0), (n 3), (r 556), (b true), (n 181), (r 557), o, (r 558), (r 559), (r 560), (n 959), (n 455), (s "/claim/cut.py" 960)] ::
  fo 102 "cas.qpoly" 945 561 ::
  tu [] ::
  fi [] ::
  tu [(s "p" 965)] ::
  tu [] ::
  pr 103 ::
  fc "code" [(s "qlead" 962), (s "qlead" 963), (s "/claim/cut.py" 964), (n 457), (n 1), (n 0), (n 0), (n 3), (r 563), (b true), (n 181), (r 564), o, (r 565), (r 566), (r 567), (n 966), (n 457), (s "/claim/cut.py" 967)] ::
  fo 103 "cas.qpoly" 945 568 ::
  tu [] ::
  fi [] ::
  pr 104 :: t
noncomputable def ob14 (P : Params) (t : List Obj) : List Obj :=
  fc "code" [(s "qadd" 969), (s "qadd" 970), (s "/claim/cut.py" 971), (n 459), (n 2), (n 0), (n 0), (n 3), (r 570), (b true), (n 181), (r 571), o, o, o, (r 572), (n 972), (n 459), (s "/claim/cut.py" 973)] ::
  fo 104 "cas.qpoly" 945 573 ::
  tu [] ::
  fi [] ::
  pr 105 ::
  fc "code" [(s "qneg" 975), (s "qneg" 976), (s "/claim/cut.py" 977), (n 462), (n 1), (n 0), (n 0), (n 3), (r 575), (b true), (n 181), (r 576), o, o, o, (r 577), (n 978), (n 462), (s "/claim/cut.py" 979)] ::
  fo 105 "cas.qpoly" 945 578 ::
  tu [] ::
  fi [] ::
  tu [(s "a" 984), (s "b" 985)] ::
  tu [] ::
  pr 106 ::
  fc "code" [(s "qsub" 981), (s "qsub" 982), (s "/claim/cut.py" 983), (n 464), (n 2), (n 0), (n 0), (n 3), (r 580), (b true), (n 181), (r 581), o, (r 582), (r 583), (r 584), (n 986), (n 464), (s "/claim/cut.py" 987)] ::
  fo 106 "cas.qpoly" 945 585 ::
  tu [] ::
  fi [] ::
  pr 107 ::
  fc "code" [(s "qscale" 989), (s "qscale" 990), (s "/claim/cut.py" 991), (n 466), (n 2), (n 0), (n 0), (n 3), (r 587), (b true), (n 181), (r 588), o, o, o, (r 589), (n 992), (n 466), (s "/claim/cut.py" 993)] ::
  fo 107 "cas.qpoly" 945 590 ::
  tu [] ::
  fi [] ::
  tu [(s "p" 998), (s "many" 999)] ::
  tu [] ::
  pr 108 ::
  fc "code" [(s "qraise" 995), (s "qraise" 996), (s "/claim/cut.py" 997), (n 468), (n 2), (n 0), (n 0), (n 3), (r 592), (b true), (n 181), (r 593), o, (r 594), (r 595), (r 596), (n 1000), (n 468), (s "/claim/cut.py" 1001)] ::
  fo 108 "cas.qpoly" 945 597 ::
  tu [] ::
  fi [] ::
  tu [(s "a" 1006), (s "b" 1007), (s "found" 1008), (s "one" 1009), (s "left" 1010), (s "other" 1011), (s "right" 1012)] ::
  tu [] ::
  pr 109 ::
  fc "code" [(s "qmul" 1003), (s "qmul" 1004), (s "/claim/cut.py" 1005), (n 470), (n 2), (n 0), (n 0), (n 3), (r 599), (b true), (n 181), (r 600), o, (r 601), (r 602), (r 603), (n 1013), (n 470), (s "/claim/cut.py" 1014)] ::
  fo 109 "cas.qpoly" 945 604 ::
  tu [] ::
  fi [] ::
  tu [(s "a" 1019), (s "b" 1020), (s "rest" 1021), (s "found" 1022), (s "number" 1023), (s "power" 1024), (s "lower" 1025)] ::
  tu [] ::
  pr 110 ::
  fc "code" [(s "qdivmod" 1016), (s "qdivmod" 1017), (s "/claim/cut.py" 1018), (n 478), (n 2), (n 0), (n 0), (n 3), (r 606), (b true), (n 181), (r 607), o, (r 608), (r 609), (r 610), (n 1026), (n 478), (s "/claim/cut.py" 1027)] ::
  fo 110 "cas.qpoly" 945 611 :: t
noncomputable def ob15 (P : Params) (t : List Obj) : List Obj :=
  tu [] ::
  fi [] ::
  tu [(s "p" 1032)] ::
  tu [] ::
  pr 111 ::
  fc "code" [(s "qmonic" 1029), (s "qmonic" 1030), (s "/claim/cut.py" 1031), (n 488), (n 1), (n 0), (n 0), (n 3), (r 613), (b true), (n 181), (r 614), o, (r 615), (r 616), (r 617), (n 1033), (n 488), (s "/claim/cut.py" 1034)] ::
  fo 111 "cas.qpoly" 945 618 ::
  tu [] ::
  fi [] ::
  tu [(s "a" 1039), (s "b" 1040)] ::
  tu [] ::
  pr 112 ::
  fc "code" [(s "qgcd" 1036), (s "qgcd" 1037), (s "/claim/cut.py" 1038), (n 490), (n 2), (n 0), (n 0), (n 3), (r 620), (b true), (n 181), (r 621), o, (r 622), (r 623), (r 624), (n 1041), (n 490), (s "/claim/cut.py" 1042)] ::
  fo 112 "cas.qpoly" 945 625 ::
  tu [] ::
  fi [] ::
  tu [(s "p" 1047), (s "r" 1048), (s "found" 1049), (s "number" 1050)] ::
  tu [] ::
  pr 113 ::
  fc "code" [(s "qat" 1044), (s "qat" 1045), (s "/claim/cut.py" 1046), (n 494), (n 2), (n 0), (n 0), (n 3), (r 627), (b true), (n 181), (r 628), o, (r 629), (r 630), (r 631), (n 1051), (n 494), (s "/claim/cut.py" 1052)] ::
  fo 113 "cas.qpoly" 945 632 ::
  tu [] ::
  fi [] ::
  tu [(s "a" 1057), (s "b" 1058), (s "found" 1059), (s "number" 1060)] ::
  tu [] ::
  pr 114 ::
  fc "code" [(s "qcompose" 1054), (s "qcompose" 1055), (s "/claim/cut.py" 1056), (n 499), (n 2), (n 0), (n 0), (n 3), (r 634), (b true), (n 181), (r 635), o, (r 636), (r 637), (r 638), (n 1061), (n 499), (s "/claim/cut.py" 1062)] ::
  fo 114 "cas.qpoly" 945 639 ::
  tu [] ::
  fi [] ::
  pr 115 ::
  fc "code" [(s "to_z" 1064), (s "to_z" 1065), (s "/claim/cut.py" 1066), (n 504), (n 1), (n 0), (n 0), (n 3), (r 641), (b true), (n 181), (r 642), o, o, o, (r 643), (n 1067), (n 504), (s "/claim/cut.py" 1068)] ::
  fo 115 "cas.qpoly" 945 644 ::
  li [] ::
  li [(r 216)] ::
  tu [(r 646), (r 647)] ::
  tu [] ::
  fi [] ::
  tu [(s "top" 1076), (s "bottom" 1077), (s "common" 1078), (s "scale" 1079)] ::
  tu [] :: t
noncomputable def ob16 (P : Params) (t : List Obj) : List Obj :=
  pr 118 ::
  fc "code" [(s "fmake" 1073), (s "fmake" 1074), (s "/claim/cut.py" 1075), (n 515), (n 2), (n 0), (n 0), (n 3), (r 649), (b true), (n 181), (r 650), o, (r 651), (r 652), (r 653), (n 1080), (n 515), (s "/claim/cut.py" 1081)] ::
  fo 118 "cas.ratfun" 1070 654 ::
  tu [] ::
  fi [] ::
  tu [(s "f" 1086), (s "r" 1087), (s "below" 1088)] ::
  tu [] ::
  pr 119 ::
  fc "code" [(s "fat" 1083), (s "fat" 1084), (s "/claim/cut.py" 1085), (n 525), (n 2), (n 0), (n 0), (n 3), (r 656), (b true), (n 181), (r 657), o, (r 658), (r 659), (r 660), (n 1089), (n 525), (s "/claim/cut.py" 1090)] ::
  fo 119 "cas.ratfun" 1070 661 ::
  tu [] ::
  fi [] ::
  tu [(s "p" 1099), (s "h" 1100)] ::
  tu [] ::
  pr 122 ::
  fc "code" [(s "moved" 1096), (s "moved" 1097), (s "/claim/cut.py" 1098), (n 530), (n 2), (n 0), (n 0), (n 3), (r 663), (b true), (n 181), (r 664), o, (r 665), (r 666), (r 667), (n 1101), (n 530), (s "/claim/cut.py" 1102)] ::
  fo 122 "cas.gosper" 1092 668 ::
  tu [] ::
  fi [] ::
  tu [(s "top" 1107), (s "bottom" 1108), (s "a" 1109), (s "b" 1110), (s "c" 1111), (s "h" 1112), (s "g" 1113), (s "step" 1114)] ::
  tu [] ::
  pr 123 ::
  fc "code" [(s "parted" 1104), (s "parted" 1105), (s "/claim/cut.py" 1106), (n 532), (n 2), (n 0), (n 0), (n 3), (r 670), (b true), (n 181), (r 671), o, (r 672), (r 673), (r 674), (n 1115), (n 532), (s "/claim/cut.py" 1116)] ::
  fo 123 "cas.gosper" 1092 675 ::
  tu [] ::
  fi [] ::
  tu [(s "p" 1121), (s "power" 1122)] ::
  tu [] ::
  pr 124 ::
  fc "code" [(s "coefficient_at" 1118), (s "coefficient_at" 1119), (s "/claim/cut.py" 1120), (n 543), (n 2), (n 0), (n 0), (n 3), (r 677), (b true), (n 181), (r 678), o, (r 679), (r 680), (r 681), (n 1123), (n 543), (s "/claim/cut.py" 1124)] ::
  fo 124 "cas.gosper" 1092 682 ::
  tu [] ::
  fi [] ::
  tu [(s "a" 1129), (s "b" 1130), (s "c" 1131), (s "high" 1132), (s "least" 1133), (s "gap" 1134)] ::
  tu [] ::
  pr 125 ::
  fc "code" [(s "most_degree" 1126), (s "most_degree" 1127), (s "/claim/cut.py" 1128), (n 545), (n 3), (n 0), (n 0), (n 3), (r 684), (b true), (n 181), (r 685), o, (r 686), (r 687), (r 688), (n 1135), (n 545), (s "/claim/cut.py" 1136)] ::
  fo 125 "cas.gosper" 1092 689 ::
  tu [] ::
  fi [] :: t
noncomputable def ob17 (P : Params) (t : List Obj) : List Obj :=
  tu [(s "a" 1141), (s "b" 1142), (s "x" 1143)] ::
  tu [] ::
  pr 126 ::
  fc "code" [(s "difference_of" 1138), (s "difference_of" 1139), (s "/claim/cut.py" 1140), (n 552), (n 3), (n 0), (n 0), (n 3), (r 691), (b true), (n 181), (r 692), o, (r 693), (r 694), (r 695), (n 1144), (n 552), (s "/claim/cut.py" 1145)] ::
  fo 126 "cas.gosper" 1092 696 ::
  tu [] ::
  fi [] ::
  pr 127 ::
  fc "code" [(s "key_solution" 1147), (s "key_solution" 1148), (s "/claim/cut.py" 1149), (n 554), (n 3), (n 0), (n 0), (n 3), (r 698), (b true), (n 181), (r 699), o, o, o, (r 700), (n 1150), (n 554), (s "/claim/cut.py" 1151)] ::
  fo 127 "cas.gosper" 1092 701 ::
  tu [] ::
  fi [] ::
  tu [(s "p" 1156), (s "size" 1157)] ::
  tu [] ::
  pr 128 ::
  fc "code" [(s "trimmed" 1153), (s "trimmed" 1154), (s "/claim/cut.py" 1155), (n 567), (n 1), (n 0), (n 0), (n 3), (r 703), (b true), (n 181), (r 704), o, (r 705), (r 706), (r 707), (n 1158), (n 567), (s "/claim/cut.py" 1159)] ::
  fo 128 "cas.gosper" 1092 708 ::
  tu [] ::
  fi [] ::
  tu [(s "ratio" 1164), (s "a" 1165), (s "b" 1166), (s "c" 1167), (s "back" 1168), (s "x" 1169)] ::
  tu [] ::
  pr 129 ::
  fc "code" [(s "gosper" 1161), (s "gosper" 1162), (s "/claim/cut.py" 1163), (n 572), (n 1), (n 0), (n 0), (n 3), (r 710), (b true), (n 181), (r 711), o, (r 712), (r 713), (r 714), (n 1170), (n 572), (s "/claim/cut.py" 1171)] ::
  fo 129 "cas.gosper" 1092 715 ::
  tu [] ::
  fi [] ::
  tu [(s "box" 1178), (s "many" 1179)] ::
  tu [] ::
  pr 131 ::
  fc "code" [(s "_law_take" 1175), (s "_law_take" 1176), (s "/claim/cut.py" 1177), (n 578), (n 2), (n 0), (n 0), (n 3), (r 717), (b true), (n 181), (r 718), o, (r 719), (r 720), (r 721), (n 1180), (n 578), (s "/claim/cut.py" 1181)] ::
  fo 131 "law_rh0046_01" 1173 722 ::
  tu [] ::
  fi [] ::
  tu [(s "one" 1186), (s "other" 1187)] ::
  tu [] ::
  pr 132 ::
  fc "code" [(s "_law_pair" 1183), (s "_law_pair" 1184), (s "/claim/cut.py" 1185), (n 583), (n 2), (n 0), (n 0), (n 3), (r 724), (b true), (n 181), (r 725), o, (r 726), (r 727), (r 728), (n 1188), (n 583), (s "/claim/cut.py" 1189)] ::
  fo 132 "law_rh0046_01" 1173 729 ::
  tu [] ::
  fi [] :: t
noncomputable def ob18 (P : Params) (t : List Obj) : List Obj :=
  tu [(s "top" 1194), (s "bottom" 1195), (s "d" 1196), (s "a" 1197), (s "b" 1198), (s "c" 1199)] ::
  tu [] ::
  pr 133 ::
  fc "code" [(s "_law_parts_right" 1191), (s "_law_parts_right" 1192), (s "/claim/cut.py" 1193), (n 585), (n 3), (n 0), (n 0), (n 3), (r 731), (b true), (n 181), (r 732), o, (r 733), (r 734), (r 735), (n 1200), (n 585), (s "/claim/cut.py" 1201)] ::
  fo 133 "law_rh0046_01" 1173 736 ::
  tu [] ::
  fi [] ::
  tu [(s "script" 1206), (s "box" 1207), (s "s" 1208), (s "d" 1209), (s "top" 1210), (s "bottom" 1211), (s "found" 1212), (s "wrong" 1213), (s "n" 1214), (s "here" 1215), (s "later" 1216), (s "above" 1217), (s "below" 1218)] ::
  tu [] ::
  pr 134 ::
  fc "code" [(s "law" 1203), (s "law" 1204), (s "/claim/cut.py" 1205), (n 588), (n 1), (n 0), (n 0), (n 3), (r 738), (b true), (n 181), (r 739), o, (r 740), (r 741), (r 742), (n 1219), (n 588), (s "/claim/cut.py" 1220)] ::
  fo 134 "law_rh0046_01" 1173 743 :: t
noncomputable def o11 : Obj := tu []
noncomputable def obR (P : Params) : List Obj := ob0 P (ob1 P (ob2 P (ob3 P (ob4 P (ob5 P (ob6 P (ob7 P (ob8 P (ob9 P (ob10 P (ob11 P (ob12 P (ob13 P (ob14 P (ob15 P (ob16 P (ob17 P (ob18 P []))))))))))))))))))
noncomputable def s02 (P : Params) : Obj := dn P [] 0
noncomputable def s03 (P : Params) : Obj := di P [(e "__name__" 165 (s "__main__" 164)), (e "__doc__" 166 o), (e "__package__" 167 o), (e "__loader__" 168 (u "__main__.__loader__#opaque")), (e "__spec__" 169 o), (e "__annotations__" 170 (r 6)), (e "__builtins__" 171 (r 4)), (e "__file__" 173 (s "/claim/cut.py" 172)), (e "__cached__" 174 o)] 9
noncomputable def s012 : Obj := fi []
noncomputable def s0N : Nat := 15
noncomputable def s0K : Nat := 187
noncomputable def s12 (P : Params) : Obj := dn P [(e "type.__subclasses__.Exception.0" 216 (n 31)), (e "type.__subclasses__.Exception.n" 217 (n 1))] 2
noncomputable def s13 (P : Params) : Obj := di P [(e "__name__" 165 (s "cas.zdiv" 383)), (e "__doc__" 166 o), (e "__package__" 167 o), (e "__loader__" 168 (u "__main__.__loader__#opaque")), (e "__spec__" 169 o), (e "__annotations__" 170 (r 6)), (e "__builtins__" 171 (r 4)), (e "__file__" 173 (s "/claim/cut.py" 172)), (e "__cached__" 174 o), (e "CasFail" 219 (r 31)), (e "gcd" 229 (r 41)), (e "gcd_all" 238 (r 48)), (e "least_divisor" 247 (r 55)), (e "prime_factors" 257 (r 62)), (e "divisors" 263 (r 67)), (e "ztrim" 273 (r 74)), (e "zdegree" 280 (r 81)), (e "zlead" 287 (r 88)), (e "zadd" 293 (r 93)), (e "zneg" 299 (r 98)), (e "zsub" 307 (r 105)), (e "zscale" 313 (r 110)), (e "zraise" 321 (r 117)), (e "zmul" 334 (r 124)), (e "zcontent" 341 (r 131)), (e "zdivided" 347 (r 136)), (e "zprimitive" 355 (r 143)), (e "zderive" 361 (r 148)), (e "zat" 371 (r 155)), (e "zshift" 382 (r 162)), (e "check_bottom" 391 (r 169)), (e "zexact" 403 (r 176)), (e "pseudo" 419 (r 183)), (e "zpseudo_rest" 427 (r 190))] 34
noncomputable def s112 : Obj := fi [(n 2), (n 0), (r 20), (n 9), (n 0), (r 40), (n 14), (n 0), (r 47), (n 19), (n 0), (r 54), (n 26), (n 0), (r 61), (n 35), (n 0), (r 66), (n 41), (n 0), (r 73), (n 46), (n 0), (r 80), (n 48), (n 0), (r 87), (n 50), (n 0), (r 92), (n 53), (n 0), (r 97), (n 55), (n 0), (r 104), (n 57), (n 0), (r 109), (n 59), (n 0), (r 116), (n 61), (n 0), (r 123), (n 70), (n 0), (r 130), (n 72), (n 0), (r 135), (n 74), (n 0), (r 142), (n 79), (n 0), (r 147), (n 81), (n 0), (r 154), (n 86), (n 0), (r 161), (n 93), (n 0), (r 168), (n 96), (n 0), (r 175), (n 106), (n 0), (r 182), (n 117), (n 0), (r 189)]
noncomputable def s1N : Nat := 191
noncomputable def s1K : Nat := 428
-- statements 0 to 29: 984 steps, pos ⟨117, 0, 118, 26⟩
noncomputable def s22 (P : Params) : Obj := dn P [(e "type.__subclasses__.Exception.0" 216 (n 31)), (e "type.__subclasses__.Exception.n" 217 (n 1))] 2
noncomputable def s23 (P : Params) : Obj := di P [(e "__name__" 165 (s "cas.sturm" 589)), (e "__doc__" 166 o), (e "__package__" 167 o), (e "__loader__" 168 (u "__main__.__loader__#opaque")), (e "__spec__" 169 o), (e "__annotations__" 170 (r 6)), (e "__builtins__" 171 (r 4)), (e "__file__" 173 (s "/claim/cut.py" 172)), (e "__cached__" 174 o), (e "CasFail" 219 (r 31)), (e "gcd" 229 (r 41)), (e "gcd_all" 238 (r 48)), (e "least_divisor" 247 (r 55)), (e "prime_factors" 257 (r 62)), (e "divisors" 263 (r 67)), (e "ztrim" 273 (r 74)), (e "zdegree" 280 (r 81)), (e "zlead" 287 (r 88)), (e "zadd" 293 (r 93)), (e "zneg" 299 (r 98)), (e "zsub" 307 (r 105)), (e "zscale" 313 (r 110)), (e "zraise" 321 (r 117)), (e "zmul" 334 (r 124)), (e "zcontent" 341 (r 131)), (e "zdivided" 347 (r 136)), (e "zprimitive" 355 (r 143)), (e "zderive" 361 (r 148)), (e "zat" 371 (r 155)), (e "zshift" 382 (r 162)), (e "check_bottom" 391 (r 169)), (e "zexact" 403 (r 176)), (e "pseudo" 419 (r 183)), (e "zpseudo_rest" 427 (r 190)), (e "divided" 435 (r 195)), (e "full_rest" 441 (r 200)), (e "row_resultant" 455 (r 207)), (e "resultant" 467 (r 214)), (e "R0" 472 (r 215)), (e "R1" 475 (r 216)), (e "rat" 484 (r 223)), (e "radd" 492 (r 230)), (e "rsub" 500 (r 237)), (e "rmul" 508 (r 244)), (e "rdiv" 516 (r 251)), (e "rneg" 523 (r 258)), (e "rinv" 530 (r 265)), (e "rcompare" 539 (r 272)), (e "rfloor" 546 (r 279)), (e "ris_whole" 553 (r 286)), (e "next_height" 564 (r 293)), (e "subresultants" 577 (r 300)), (e "zgcd" 588 (r 307)), (e "sign_of" 597 (r 314)), (e "value_sign" 610 (r 321)), (e "end_sign" 619 (r 328)), (e "sign_at" 627 (r 335)), (e "simple_part" 635 (r 342))] 58
noncomputable def s212 : Obj := fi [(n 2), (n 0), (r 20), (n 9), (n 0), (r 40), (n 14), (n 0), (r 47), (n 19), (n 0), (r 54), (n 26), (n 0), (r 61), (n 35), (n 0), (r 66), (n 41), (n 0), (r 73), (n 46), (n 0), (r 80), (n 48), (n 0), (r 87), (n 50), (n 0), (r 92), (n 53), (n 0), (r 97), (n 55), (n 0), (r 104), (n 57), (n 0), (r 109), (n 59), (n 0), (r 116), (n 61), (n 0), (r 123), (n 70), (n 0), (r 130), (n 72), (n 0), (r 135), (n 74), (n 0), (r 142), (n 79), (n 0), (r 147), (n 81), (n 0), (r 154), (n 86), (n 0), (r 161), (n 93), (n 0), (r 168), (n 96), (n 0), (r 175), (n 106), (n 0), (r 182), (n 117), (n 0), (r 189), (n 120), (n 0), (r 194), (n 122), (n 0), (r 199), (n 126), (n 0), (r 206), (n 141), (n 0), (r 213), (n 154), (n 0), (r 222), (n 159), (n 0), (r 229), (n 161), (n 0), (r 236), (n 163), (n 0), (r 243), (n 165), (n 0), (r 250), (n 167), (n 0), (r 257), (n 169), (n 0), (r 264), (n 171), (n 0), (r 271), (n 174), (n 0), (r 278), (n 176), (n 0), (r 285), (n 179), (n 0), (r 292), (n 183), (n 0), (r 299), (n 197), (n 0), (r 306), (n 205), (n 0), (r 313), (n 207), (n 0), (r 320), (n 214), (n 0), (r 327), (n 219), (n 0), (r 334), (n 221), (n 0), (r 341)]
noncomputable def s2N : Nat := 343
noncomputable def s2K : Nat := 636
-- statements 29 to 57: 734 steps, pos ⟨221, 0, 223, 58⟩
noncomputable def s32 (P : Params) : Obj := dn P [(e "type.__subclasses__.Exception.0" 216 (n 31)), (e "type.__subclasses__.Exception.n" 217 (n 1))] 2
noncomputable def s33 (P : Params) : Obj := di P [(e "__name__" 165 (s "cas.dispersion" 819)), (e "__doc__" 166 o), (e "__package__" 167 o), (e "__loader__" 168 (u "__main__.__loader__#opaque")), (e "__spec__" 169 o), (e "__annotations__" 170 (r 6)), (e "__builtins__" 171 (r 4)), (e "__file__" 173 (s "/claim/cut.py" 172)), (e "__cached__" 174 o), (e "CasFail" 219 (r 31)), (e "gcd" 229 (r 41)), (e "gcd_all" 238 (r 48)), (e "least_divisor" 247 (r 55)), (e "prime_factors" 257 (r 62)), (e "divisors" 263 (r 67)), (e "ztrim" 273 (r 74)), (e "zdegree" 280 (r 81)), (e "zlead" 287 (r 88)), (e "zadd" 293 (r 93)), (e "zneg" 299 (r 98)), (e "zsub" 307 (r 105)), (e "zscale" 313 (r 110)), (e "zraise" 321 (r 117)), (e "zmul" 334 (r 124)), (e "zcontent" 341 (r 131)), (e "zdivided" 347 (r 136)), (e "zprimitive" 355 (r 143)), (e "zderive" 361 (r 148)), (e "zat" 371 (r 155)), (e "zshift" 382 (r 162)), (e "check_bottom" 391 (r 169)), (e "zexact" 403 (r 176)), (e "pseudo" 419 (r 183)), (e "zpseudo_rest" 427 (r 190)), (e "divided" 435 (r 195)), (e "full_rest" 441 (r 200)), (e "row_resultant" 455 (r 207)), (e "resultant" 467 (r 214)), (e "R0" 472 (r 215)), (e "R1" 475 (r 216)), (e "rat" 484 (r 223)), (e "radd" 492 (r 230)), (e "rsub" 500 (r 237)), (e "rmul" 508 (r 244)), (e "rdiv" 516 (r 251)), (e "rneg" 523 (r 258)), (e "rinv" 530 (r 265)), (e "rcompare" 539 (r 272)), (e "rfloor" 546 (r 279)), (e "ris_whole" 553 (r 286)), (e "next_height" 564 (r 293)), (e "subresultants" 577 (r 300)), (e "zgcd" 588 (r 307)), (e "sign_of" 597 (r 314)), (e "value_sign" 610 (r 321)), (e "end_sign" 619 (r 328)), (e "sign_at" 627 (r 335)), (e "simple_part" 635 (r 342)), (e "lessened" 641 (r 347)), (e "next_of_row" 652 (r 354)), (e "sturm_row" 661 (r 361)), (e "changes_at" 667 (r 366)), (e "count_by_row" 676 (r 373)), (e "root_bound" 682 (r 378)), (e "HALF" 687 (r 379)), (e "MOST_DIVIDED" 691 (k 10000000000 690)), (e "middle" 699 (r 386)), (e "linear_of" 706 (r 393)), (e "is_inside" 714 (r 400)), (e "split_roots" 729 (r 407)), (e "isolate" 735 (r 412)), (e "kept_off" 741 (r 417)), (e "sorted_intervals" 751 (r 424)), (e "halved" 763 (r 431)), (e "refine" 773 (r 438)), (e "rational_roots" 784 (r 445)), (e "tried_roots" 795 (r 452)), (e "candidates" 808 (r 459)), (e "sorted_roots" 818 (r 466)), (e "MOST_WALKED" 822 (k 1000 821)), (e "MOST_TOLD" 824 (k 40 823)), (e "MOST_NUMBERS" 828 (k 10000000 827)), (e "MOST_WORK" 832 (k 1000000 831))] 83
noncomputable def s312 : Obj := fi [(n 2), (n 0), (r 20), (n 9), (n 0), (r 40), (n 14), (n 0), (r 47), (n 19), (n 0), (r 54), (n 26), (n 0), (r 61), (n 35), (n 0), (r 66), (n 41), (n 0), (r 73), (n 46), (n 0), (r 80), (n 48), (n 0), (r 87), (n 50), (n 0), (r 92), (n 53), (n 0), (r 97), (n 55), (n 0), (r 104), (n 57), (n 0), (r 109), (n 59), (n 0), (r 116), (n 61), (n 0), (r 123), (n 70), (n 0), (r 130), (n 72), (n 0), (r 135), (n 74), (n 0), (r 142), (n 79), (n 0), (r 147), (n 81), (n 0), (r 154), (n 86), (n 0), (r 161), (n 93), (n 0), (r 168), (n 96), (n 0), (r 175), (n 106), (n 0), (r 182), (n 117), (n 0), (r 189), (n 120), (n 0), (r 194), (n 122), (n 0), (r 199), (n 126), (n 0), (r 206), (n 141), (n 0), (r 213), (n 154), (n 0), (r 222), (n 159), (n 0), (r 229), (n 161), (n 0), (r 236), (n 163), (n 0), (r 243), (n 165), (n 0), (r 250), (n 167), (n 0), (r 257), (n 169), (n 0), (r 264), (n 171), (n 0), (r 271), (n 174), (n 0), (r 278), (n 176), (n 0), (r 285), (n 179), (n 0), (r 292), (n 183), (n 0), (r 299), (n 197), (n 0), (r 306), (n 205), (n 0), (r 313), (n 207), (n 0), (r 320), (n 214), (n 0), (r 327), (n 219), (n 0), (r 334), (n 221), (n 0), (r 341), (n 224), (n 0), (r 346), (n 227), (n 0), (r 353), (n 232), (n 0), (r 360), (n 238), (n 0), (r 365), (n 242), (n 0), (r 372), (n 244), (n 0), (r 377), (n 250), (n 0), (r 385), (n 252), (n 0), (r 392), (n 254), (n 0), (r 399), (n 256), (n 0), (r 406), (n 271), (n 0), (r 411), (n 282), (n 0), (r 416), (n 286), (n 0), (r 423), (n 294), (n 0), (r 430), (n 301), (n 0), (r 437), (n 308), (n 0), (r 444), (n 322), (n 0), (r 451), (n 332), (n 0), (r 458), (n 343), (n 0), (r 465)]
noncomputable def s3N : Nat := 467
noncomputable def s3K : Nat := 833
-- statements 57 to 84: 675 steps, pos ⟨355, 0, 355, 9⟩
noncomputable def s42 (P : Params) : Obj := dn P [(e "type.__subclasses__.Exception.0" 216 (n 31)), (e "type.__subclasses__.Exception.n" 217 (n 1))] 2
noncomputable def s43 (P : Params) : Obj := di P [(e "__name__" 165 (s "cas.qpoly" 945)), (e "__doc__" 166 o), (e "__package__" 167 o), (e "__loader__" 168 (u "__main__.__loader__#opaque")), (e "__spec__" 169 o), (e "__annotations__" 170 (r 6)), (e "__builtins__" 171 (r 4)), (e "__file__" 173 (s "/claim/cut.py" 172)), (e "__cached__" 174 o), (e "CasFail" 219 (r 31)), (e "gcd" 229 (r 41)), (e "gcd_all" 238 (r 48)), (e "least_divisor" 247 (r 55)), (e "prime_factors" 257 (r 62)), (e "divisors" 263 (r 67)), (e "ztrim" 273 (r 74)), (e "zdegree" 280 (r 81)), (e "zlead" 287 (r 88)), (e "zadd" 293 (r 93)), (e "zneg" 299 (r 98)), (e "zsub" 307 (r 105)), (e "zscale" 313 (r 110)), (e "zraise" 321 (r 117)), (e "zmul" 334 (r 124)), (e "zcontent" 341 (r 131)), (e "zdivided" 347 (r 136)), (e "zprimitive" 355 (r 143)), (e "zderive" 361 (r 148)), (e "zat" 371 (r 155)), (e "zshift" 382 (r 162)), (e "check_bottom" 391 (r 169)), (e "zexact" 403 (r 176)), (e "pseudo" 419 (r 183)), (e "zpseudo_rest" 427 (r 190)), (e "divided" 435 (r 195)), (e "full_rest" 441 (r 200)), (e "row_resultant" 455 (r 207)), (e "resultant" 467 (r 214)), (e "R0" 472 (r 215)), (e "R1" 475 (r 216)), (e "rat" 484 (r 223)), (e "radd" 492 (r 230)), (e "rsub" 500 (r 237)), (e "rmul" 508 (r 244)), (e "rdiv" 516 (r 251)), (e "rneg" 523 (r 258)), (e "rinv" 530 (r 265)), (e "rcompare" 539 (r 272)), (e "rfloor" 546 (r 279)), (e "ris_whole" 553 (r 286)), (e "next_height" 564 (r 293)), (e "subresultants" 577 (r 300)), (e "zgcd" 588 (r 307)), (e "sign_of" 597 (r 314)), (e "value_sign" 610 (r 321)), (e "end_sign" 619 (r 328)), (e "sign_at" 627 (r 335)), (e "simple_part" 635 (r 342)), (e "lessened" 641 (r 347)), (e "next_of_row" 652 (r 354)), (e "sturm_row" 661 (r 361)), (e "changes_at" 667 (r 366)), (e "count_by_row" 676 (r 373)), (e "root_bound" 682 (r 378)), (e "HALF" 687 (r 379)), (e "MOST_DIVIDED" 691 (k 10000000000 690)), (e "middle" 699 (r 386)), (e "linear_of" 706 (r 393)), (e "is_inside" 714 (r 400)), (e "split_roots" 729 (r 407)), (e "isolate" 735 (r 412)), (e "kept_off" 741 (r 417)), (e "sorted_intervals" 751 (r 424)), (e "halved" 763 (r 431)), (e "refine" 773 (r 438)), (e "rational_roots" 784 (r 445)), (e "tried_roots" 795 (r 452)), (e "candidates" 808 (r 459)), (e "sorted_roots" 818 (r 466)), (e "MOST_WALKED" 822 (k 1000 821)), (e "MOST_TOLD" 824 (k 40 823)), (e "MOST_NUMBERS" 828 (k 10000000 827)), (e "MOST_WORK" 832 (k 1000000 831)), (e "first_differences" 838 (r 471)), (e "zeros_on" 850 (r 478)), (e "told_by" 860 (r 485)), (e "whole_zeros" 866 (r 490)), (e "roots_within" 872 (r 495)), (e "dispersions" 878 (r 500)), (e "shape" 887 (r 507)), (e "need_shape" 895 (r 514)), (e "copied" 901 (r 519)), (e "swap_rows" 910 (r 526)), (e "take_off" 916 (r 531)), (e "echelon" 922 (r 536)), (e "null_base" 938 (r 543)), (e "solve_system" 944 (r 548)), (e "qtrim" 954 (r 555)), (e "qdegree" 961 (r 562)), (e "qlead" 968 (r 569)), (e "qadd" 974 (r 574)), (e "qneg" 980 (r 579)), (e "qsub" 988 (r 586)), (e "qscale" 994 (r 591)), (e "qraise" 1002 (r 598)), (e "qmul" 1015 (r 605))] 106
noncomputable def s412 : Obj := fi [(n 2), (n 0), (r 20), (n 9), (n 0), (r 40), (n 14), (n 0), (r 47), (n 19), (n 0), (r 54), (n 26), (n 0), (r 61), (n 35), (n 0), (r 66), (n 41), (n 0), (r 73), (n 46), (n 0), (r 80), (n 48), (n 0), (r 87), (n 50), (n 0), (r 92), (n 53), (n 0), (r 97), (n 55), (n 0), (r 104), (n 57), (n 0), (r 109), (n 59), (n 0), (r 116), (n 61), (n 0), (r 123), (n 70), (n 0), (r 130), (n 72), (n 0), (r 135), (n 74), (n 0), (r 142), (n 79), (n 0), (r 147), (n 81), (n 0), (r 154), (n 86), (n 0), (r 161), (n 93), (n 0), (r 168), (n 96), (n 0), (r 175), (n 106), (n 0), (r 182), (n 117), (n 0), (r 189), (n 120), (n 0), (r 194), (n 122), (n 0), (r 199), (n 126), (n 0), (r 206), (n 141), (n 0), (r 213), (n 154), (n 0), (r 222), (n 159), (n 0), (r 229), (n 161), (n 0), (r 236), (n 163), (n 0), (r 243), (n 165), (n 0), (r 250), (n 167), (n 0), (r 257), (n 169), (n 0), (r 264), (n 171), (n 0), (r 271), (n 174), (n 0), (r 278), (n 176), (n 0), (r 285), (n 179), (n 0), (r 292), (n 183), (n 0), (r 299), (n 197), (n 0), (r 306), (n 205), (n 0), (r 313), (n 207), (n 0), (r 320), (n 214), (n 0), (r 327), (n 219), (n 0), (r 334), (n 221), (n 0), (r 341), (n 224), (n 0), (r 346), (n 227), (n 0), (r 353), (n 232), (n 0), (r 360), (n 238), (n 0), (r 365), (n 242), (n 0), (r 372), (n 244), (n 0), (r 377), (n 250), (n 0), (r 385), (n 252), (n 0), (r 392), (n 254), (n 0), (r 399), (n 256), (n 0), (r 406), (n 271), (n 0), (r 411), (n 282), (n 0), (r 416), (n 286), (n 0), (r 423), (n 294), (n 0), (r 430), (n 301), (n 0), (r 437), (n 308), (n 0), (r 444), (n 322), (n 0), (r 451), (n 332), (n 0), (r 458), (n 343), (n 0), (r 465), (n 356), (n 0), (r 470), (n 362), (n 0), (r 477), (n 370), (n 0), (r 484), (n 376), (n 0), (r 489), (n 383), (n 0), (r 494), (n 388), (n 0), (r 499), (n 400), (n 0), (r 506), (n 402), (n 0), (r 513), (n 405), (n 0), (r 518), (n 407), (n 0), (r 525), (n 409), (n 0), (r 530), (n 411), (n 0), (r 535), (n 427), (n 0), (r 542), (n 439), (n 0), (r 547), (n 450), (n 0), (r 554), (n 455), (n 0), (r 561), (n 457), (n 0), (r 568), (n 459), (n 0), (r 573), (n 462), (n 0), (r 578), (n 464), (n 0), (r 585), (n 466), (n 0), (r 590), (n 468), (n 0), (r 597), (n 470), (n 0), (r 604)]
noncomputable def s4N : Nat := 606
noncomputable def s4K : Nat := 1016
-- statements 84 to 110: 688 steps, pos ⟨470, 0, 477, 16⟩
noncomputable def s52 (P : Params) : Obj := dn P [(e "type.__subclasses__.Exception.0" 216 (n 31)), (e "type.__subclasses__.Exception.n" 217 (n 1))] 2
noncomputable def s53 (P : Params) : Obj := di P [(e "__name__" 165 (s "law_rh0046_01" 1173)), (e "__doc__" 166 o), (e "__package__" 167 o), (e "__loader__" 168 (u "__main__.__loader__#opaque")), (e "__spec__" 169 o), (e "__annotations__" 170 (r 6)), (e "__builtins__" 171 (r 4)), (e "__file__" 173 (s "/claim/cut.py" 172)), (e "__cached__" 174 o), (e "CasFail" 219 (r 31)), (e "gcd" 229 (r 41)), (e "gcd_all" 238 (r 48)), (e "least_divisor" 247 (r 55)), (e "prime_factors" 257 (r 62)), (e "divisors" 263 (r 67)), (e "ztrim" 273 (r 74)), (e "zdegree" 280 (r 81)), (e "zlead" 287 (r 88)), (e "zadd" 293 (r 93)), (e "zneg" 299 (r 98)), (e "zsub" 307 (r 105)), (e "zscale" 313 (r 110)), (e "zraise" 321 (r 117)), (e "zmul" 334 (r 124)), (e "zcontent" 341 (r 131)), (e "zdivided" 347 (r 136)), (e "zprimitive" 355 (r 143)), (e "zderive" 361 (r 148)), (e "zat" 371 (r 155)), (e "zshift" 382 (r 162)), (e "check_bottom" 391 (r 169)), (e "zexact" 403 (r 176)), (e "pseudo" 419 (r 183)), (e "zpseudo_rest" 427 (r 190)), (e "divided" 435 (r 195)), (e "full_rest" 441 (r 200)), (e "row_resultant" 455 (r 207)), (e "resultant" 467 (r 214)), (e "R0" 472 (r 215)), (e "R1" 475 (r 216)), (e "rat" 484 (r 223)), (e "radd" 492 (r 230)), (e "rsub" 500 (r 237)), (e "rmul" 508 (r 244)), (e "rdiv" 516 (r 251)), (e "rneg" 523 (r 258)), (e "rinv" 530 (r 265)), (e "rcompare" 539 (r 272)), (e "rfloor" 546 (r 279)), (e "ris_whole" 553 (r 286)), (e "next_height" 564 (r 293)), (e "subresultants" 577 (r 300)), (e "zgcd" 588 (r 307)), (e "sign_of" 597 (r 314)), (e "value_sign" 610 (r 321)), (e "end_sign" 619 (r 328)), (e "sign_at" 627 (r 335)), (e "simple_part" 635 (r 342)), (e "lessened" 641 (r 347)), (e "next_of_row" 652 (r 354)), (e "sturm_row" 661 (r 361)), (e "changes_at" 667 (r 366)), (e "count_by_row" 676 (r 373)), (e "root_bound" 682 (r 378)), (e "HALF" 687 (r 379)), (e "MOST_DIVIDED" 691 (k 10000000000 690)), (e "middle" 699 (r 386)), (e "linear_of" 706 (r 393)), (e "is_inside" 714 (r 400)), (e "split_roots" 729 (r 407)), (e "isolate" 735 (r 412)), (e "kept_off" 741 (r 417)), (e "sorted_intervals" 751 (r 424)), (e "halved" 763 (r 431)), (e "refine" 773 (r 438)), (e "rational_roots" 784 (r 445)), (e "tried_roots" 795 (r 452)), (e "candidates" 808 (r 459)), (e "sorted_roots" 818 (r 466)), (e "MOST_WALKED" 822 (k 1000 821)), (e "MOST_TOLD" 824 (k 40 823)), (e "MOST_NUMBERS" 828 (k 10000000 827)), (e "MOST_WORK" 832 (k 1000000 831)), (e "first_differences" 838 (r 471)), (e "zeros_on" 850 (r 478)), (e "told_by" 860 (r 485)), (e "whole_zeros" 866 (r 490)), (e "roots_within" 872 (r 495)), (e "dispersions" 878 (r 500)), (e "shape" 887 (r 507)), (e "need_shape" 895 (r 514)), (e "copied" 901 (r 519)), (e "swap_rows" 910 (r 526)), (e "take_off" 916 (r 531)), (e "echelon" 922 (r 536)), (e "null_base" 938 (r 543)), (e "solve_system" 944 (r 548)), (e "qtrim" 954 (r 555)), (e "qdegree" 961 (r 562)), (e "qlead" 968 (r 569)), (e "qadd" 974 (r 574)), (e "qneg" 980 (r 579)), (e "qsub" 988 (r 586)), (e "qscale" 994 (r 591)), (e "qraise" 1002 (r 598)), (e "qmul" 1015 (r 605)), (e "qdivmod" 1028 (r 612)), (e "qmonic" 1035 (r 619)), (e "qgcd" 1043 (r 626)), (e "qat" 1053 (r 633)), (e "qcompose" 1063 (r 640)), (e "to_z" 1069 (r 645)), (e "F0" 1072 (r 648)), (e "fmake" 1082 (r 655)), (e "fat" 1091 (r 662)), (e "MOST_DEGREE" 1095 (k 200 1094)), (e "moved" 1103 (r 669)), (e "parted" 1117 (r 676)), (e "coefficient_at" 1125 (r 683)), (e "most_degree" 1137 (r 690)), (e "difference_of" 1146 (r 697)), (e "key_solution" 1152 (r 702)), (e "trimmed" 1160 (r 709)), (e "gosper" 1172 (r 716)), (e "_law_take" 1182 (r 723)), (e "_law_pair" 1190 (r 730)), (e "_law_parts_right" 1202 (r 737)), (e "law" 1221 (r 744))] 128
noncomputable def s512 : Obj := fi [(n 2), (n 0), (r 20), (n 9), (n 0), (r 40), (n 14), (n 0), (r 47), (n 19), (n 0), (r 54), (n 26), (n 0), (r 61), (n 35), (n 0), (r 66), (n 41), (n 0), (r 73), (n 46), (n 0), (r 80), (n 48), (n 0), (r 87), (n 50), (n 0), (r 92), (n 53), (n 0), (r 97), (n 55), (n 0), (r 104), (n 57), (n 0), (r 109), (n 59), (n 0), (r 116), (n 61), (n 0), (r 123), (n 70), (n 0), (r 130), (n 72), (n 0), (r 135), (n 74), (n 0), (r 142), (n 79), (n 0), (r 147), (n 81), (n 0), (r 154), (n 86), (n 0), (r 161), (n 93), (n 0), (r 168), (n 96), (n 0), (r 175), (n 106), (n 0), (r 182), (n 117), (n 0), (r 189), (n 120), (n 0), (r 194), (n 122), (n 0), (r 199), (n 126), (n 0), (r 206), (n 141), (n 0), (r 213), (n 154), (n 0), (r 222), (n 159), (n 0), (r 229), (n 161), (n 0), (r 236), (n 163), (n 0), (r 243), (n 165), (n 0), (r 250), (n 167), (n 0), (r 257), (n 169), (n 0), (r 264), (n 171), (n 0), (r 271), (n 174), (n 0), (r 278), (n 176), (n 0), (r 285), (n 179), (n 0), (r 292), (n 183), (n 0), (r 299), (n 197), (n 0), (r 306), (n 205), (n 0), (r 313), (n 207), (n 0), (r 320), (n 214), (n 0), (r 327), (n 219), (n 0), (r 334), (n 221), (n 0), (r 341), (n 224), (n 0), (r 346), (n 227), (n 0), (r 353), (n 232), (n 0), (r 360), (n 238), (n 0), (r 365), (n 242), (n 0), (r 372), (n 244), (n 0), (r 377), (n 250), (n 0), (r 385), (n 252), (n 0), (r 392), (n 254), (n 0), (r 399), (n 256), (n 0), (r 406), (n 271), (n 0), (r 411), (n 282), (n 0), (r 416), (n 286), (n 0), (r 423), (n 294), (n 0), (r 430), (n 301), (n 0), (r 437), (n 308), (n 0), (r 444), (n 322), (n 0), (r 451), (n 332), (n 0), (r 458), (n 343), (n 0), (r 465), (n 356), (n 0), (r 470), (n 362), (n 0), (r 477), (n 370), (n 0), (r 484), (n 376), (n 0), (r 489), (n 383), (n 0), (r 494), (n 388), (n 0), (r 499), (n 400), (n 0), (r 506), (n 402), (n 0), (r 513), (n 405), (n 0), (r 518), (n 407), (n 0), (r 525), (n 409), (n 0), (r 530), (n 411), (n 0), (r 535), (n 427), (n 0), (r 542), (n 439), (n 0), (r 547), (n 450), (n 0), (r 554), (n 455), (n 0), (r 561), (n 457), (n 0), (r 568), (n 459), (n 0), (r 573), (n 462), (n 0), (r 578), (n 464), (n 0), (r 585), (n 466), (n 0), (r 590), (n 468), (n 0), (r 597), (n 470), (n 0), (r 604), (n 478), (n 0), (r 611), (n 488), (n 0), (r 618), (n 490), (n 0), (r 625), (n 494), (n 0), (r 632), (n 499), (n 0), (r 639), (n 504), (n 0), (r 644), (n 515), (n 0), (r 654), (n 525), (n 0), (r 661), (n 530), (n 0), (r 668), (n 532), (n 0), (r 675), (n 543), (n 0), (r 682), (n 545), (n 0), (r 689), (n 552), (n 0), (r 696), (n 554), (n 0), (r 701), (n 567), (n 0), (r 708), (n 572), (n 0), (r 715), (n 578), (n 0), (r 722), (n 583), (n 0), (r 729), (n 585), (n 0), (r 736), (n 588), (n 0), (r 743)]
noncomputable def s5N : Nat := 745
noncomputable def s5K : Nat := 1222
-- statements 110 to 135: 685 steps, pos ⟨588, 0, 603, 15⟩
-- block pos ⟨0, 0, 0, 0⟩ pre pos ⟨0, 0, 0, 0⟩ framePos ⟨0, 0, 0, 0⟩ frame 14

noncomputable def objsAt (P : Params) (o2 o3 o12 : Obj) (m : Nat) : List Obj := ([boot_o_0 P, boot_o_1 P, o2, o3, boot_o_4 P, boot_o_5 P, boot_o_6 P, boot_o_7 P, boot_o_8 P, boot_o_9 P, boot_o_10 P, o11, o12] ++ obR P).take m
noncomputable def stT (P : Params) (o2 o3 o12 : Obj) (m tk : Nat) (os : OsState) : SharedT := ⟨layT (objsAt P o2 o3 o12 m) 0 .nil, m, (boot_heap P).life, #[], boot_drawn, tk, os⟩
noncomputable def S0 (P : Params) (os : OsState) : SharedT := stT P (s02 P) (s03 P) s012 s0N s0K os
noncomputable def S1 (P : Params) (os : OsState) : SharedT := stT P (s12 P) (s13 P) s112 s1N s1K os
noncomputable def S2 (P : Params) (os : OsState) : SharedT := stT P (s22 P) (s23 P) s212 s2N s2K os
noncomputable def S3 (P : Params) (os : OsState) : SharedT := stT P (s32 P) (s33 P) s312 s3N s3K os
noncomputable def S4 (P : Params) (os : OsState) : SharedT := stT P (s42 P) (s43 P) s412 s4N s4K os
noncomputable def S5 (P : Params) (os : OsState) : SharedT := stT P (s52 P) (s53 P) s512 s5N s5K os

end Gos.Ob
end

section
open PySem PySem.W PyProof.Rows
set_option maxHeartbeats 0
namespace Gos
open PySem PySem.W Gos.Ob

noncomputable def envT (p : Program) : Env := { scope := p.main.scope, locals := mainNs, globals := mainNs, cells := [], code := .ref 13, frame := some 14 }
noncomputable def cdT (p : Program) : Code := .body (behindTheImports p) (envT p)
noncomputable abbrev q0 : Pos := ⟨0, 0, 0, 0⟩
noncomputable def segB (p : Program) (a k : Nat) (pos : Pos) (w : World) (n : Nat) (S : SharedT) := segRunT treeTable p w 11 (some (.ref 6)) 1 n S (piecesOf (((behindTheImports p).drop a).take k) (envT p) (cdT p) pos [topFrame q0])
theorem segB_e : segB = segB := rfl
name_quick qSeg for Gos.segB by Gos.segB_e
theorem seg1 : ∀ (w : World) (os : OsState), PySem.W.Fast.qSeg PySem.Challenge.pw_rh0046_01 0 29 q0 w 985 (S0 w.params os) = some (.next, S1 w.params os, cdT PySem.Challenge.pw_rh0046_01, ⟨117, 0, 118, 26⟩) := fun w os => by kernel_rfl
theorem seg2 : ∀ (w : World) (os : OsState), PySem.W.Fast.qSeg PySem.Challenge.pw_rh0046_01 29 28 ⟨117, 0, 118, 26⟩ w 735 (S1 w.params os) = some (.next, S2 w.params os, cdT PySem.Challenge.pw_rh0046_01, ⟨221, 0, 223, 58⟩) := fun w os => by kernel_rfl
theorem seg3 : ∀ (w : World) (os : OsState), PySem.W.Fast.qSeg PySem.Challenge.pw_rh0046_01 57 27 ⟨221, 0, 223, 58⟩ w 676 (S2 w.params os) = some (.next, S3 w.params os, cdT PySem.Challenge.pw_rh0046_01, ⟨355, 0, 355, 9⟩) := fun w os => by kernel_rfl
theorem seg4 : ∀ (w : World) (os : OsState), PySem.W.Fast.qSeg PySem.Challenge.pw_rh0046_01 84 26 ⟨355, 0, 355, 9⟩ w 689 (S3 w.params os) = some (.next, S4 w.params os, cdT PySem.Challenge.pw_rh0046_01, ⟨470, 0, 477, 16⟩) := fun w os => by kernel_rfl
theorem seg5 : ∀ (w : World) (os : OsState), PySem.W.Fast.qSeg PySem.Challenge.pw_rh0046_01 110 25 ⟨470, 0, 477, 16⟩ w 686 (S4 w.params os) = some (.next, S5 w.params os, cdT PySem.Challenge.pw_rh0046_01, ⟨588, 0, 603, 15⟩) := fun w os => by kernel_rfl
end Gos
end

section
open PySem PySem.W PyProof.Rows
set_option maxHeartbeats 0
namespace Gos
open PySem PySem.W Gos.Ob

noncomputable def hF (P : Params) : Heap := ⟨(boot_o_0 P :: boot_o_1 P :: s52 P :: s53 P :: boot_o_4 P :: boot_o_5 P :: boot_o_6 P :: boot_o_7 P :: boot_o_8 P :: boot_o_9 P :: boot_o_10 P :: o11 :: s512 :: obR P).toArray, (boot_heap P).life⟩
noncomputable def sF (P : Params) (os : OsState) : Shared := ⟨hF P, #[], boot_drawn, s5K, os⟩
noncomputable def okB (p : Program) (H₀ : Heap) (s : Shared) : Bool := staticsOk (importedModules p.main.body) H₀ s.heap && namesBound p s.heap && gensDone s && laidKept H₀ s.heap
noncomputable def se1B (l : List DefRec) (q : Program) (s : Shared) := seen (l.map (·.name)) (ownsOf q) [] { s with gens := #[] }
noncomputable def se3B (l : List DefRec) (q : Program) (lw : List Str) (mods : List Str) (s : Shared) : Bool :=
  s.heap.keysOk lw (l.map (·.name)) ((litsOf q).map (·.1)) ((clssOf q lw).map (·.name)) && s.heap.accountedOkI mods && s.heap.isNs mainGlobals && s.heap.isNs builtinsNs && tablesOk q s.heap && (xlAt q [] s && recOk [] s) && (if true then s.gens.size == 0 else !leftWithCleanup s.gens)
noncomputable def se4B (q : Program) (s : Shared) : Bool := (s.heap.bmainOk && valsOk q s.heap) && (!importsNone q || s.heap.noSeerOk)
noncomputable def se5B (l : List DefRec) (s : Shared) : Bool := l.all fun d => s.heap.tab0Ok d.name
theorem okB_e : okB = okB := rfl
theorem se1B_e : se1B = se1B := rfl
theorem se3B_e : se3B = se3B := rfl
theorem se4B_e : se4B = se4B := rfl
theorem se5B_e : se5B = se5B := rfl
name_quick qOk for Gos.okB by Gos.okB_e
name_quick qSe1 for Gos.se1B by Gos.se1B_e
name_quick qSe3 for Gos.se3B by Gos.se3B_e
name_quick qSe4 for Gos.se4B by Gos.se4B_e
name_quick qSe5 for Gos.se5B by Gos.se5B_e
theorem loose_eq : looseW qv looseL = looseL := by
  unfold looseW looseD heldW
  rw [no_wdefs, no_wlits, no_drecs]
  kernel_rfl
noncomputable abbrev pw : Program := PySem.Challenge.pw_rh0046_01
theorem lk_ok (P : Params) (os : OsState) : PySem.W.Fast.qOk pw (boot_heap P) (sF P os) = true := by kernel_rfl
theorem lk_obs (P : Params) (os : OsState) : obs (sF P os) = (true, valV, valO P) := by kernel_rfl
theorem lk1' (P : Params) (os : OsState) : PySem.W.Fast.qSe1 recL qv (sF P os) = ⟨recL.map fun d => some d.shape, true, [], true, true, true, 0⟩ := by kernel_rfl
theorem lk3' (P : Params) (os : OsState) : PySem.W.Fast.qSe3 recL qv looseL (importedModules pw.main.body) (sF P os) = true := by kernel_rfl
theorem lk4' (P : Params) (os : OsState) : PySem.W.Fast.qSe4 qv (sF P os) = true := by kernel_rfl
theorem lk5a (P : Params) (os : OsState) : PySem.W.Fast.qSe5 (recL.take 40) (sF P os) = true := by kernel_rfl
theorem lk5b (P : Params) (os : OsState) : PySem.W.Fast.qSe5 ((recL.drop 40).take 25) (sF P os) = true := by kernel_rfl
theorem lk5c (P : Params) (os : OsState) : PySem.W.Fast.qSe5 ((recL.drop 65).take 22) (sF P os) = true := by kernel_rfl
theorem lk5d (P : Params) (os : OsState) : PySem.W.Fast.qSe5 (recL.drop 87) (sF P os) = true := by kernel_rfl
theorem lk5' (P : Params) (os : OsState) : se5B recL (sF P os) = true := by
  have ha := lk5a P os
  have hb := lk5b P os
  have hc := lk5c P os
  have hd := lk5d P os
  rw [← PySem.W.Fast.qSe5_eq] at ha hb hc hd
  unfold se5B at ha hb hc hd ⊢
  have e1 : recL.drop 65 = (recL.drop 40).drop 25 := by rw [List.drop_drop]
  have e2 : recL.drop 87 = ((recL.drop 40).drop 25).drop 22 := by rw [List.drop_drop, List.drop_drop]
  rw [e1] at hc
  rw [e2] at hd
  rw [← List.take_append_drop 40 recL, List.all_append, ha, Bool.true_and, ← List.take_append_drop 25 (recL.drop 40), List.all_append, hb, Bool.true_and, ← List.take_append_drop 22 ((recL.drop 40).drop 25), List.all_append, hc, Bool.true_and, hd]
theorem lk2 (P : Params) (os : OsState) : (sF P os).heap.bltView = bltViewBooted := by kernel_rfl
theorem lk6 (P : Params) (os : OsState) : plainSeenE qv (looseW qv looseL) (sF P os) = plainGoodE qv (looseW qv looseL) := by kernel_rfl
theorem lk7 (P : Params) (os : OsState) : plainSeenD qv looseL (sF P os) = plainGoodD qv looseL := by kernel_rfl
theorem lk9 (P : Params) (os : OsState) : clsSeenW qv looseL (sF P os) = clsGoodW qv looseL := by kernel_rfl
theorem lk1 (P : Params) (os : OsState) : seen ((recsOf qv).map (·.name)) (ownsOf qv) [] { sF P os with gens := #[] } = expectedOf qv := by
  have h := lk1' P os
  rw [← PySem.W.Fast.qSe1_eq] at h
  unfold expectedOf
  rw [recs_eq]
  exact h
theorem lk3 (P : Params) (os : OsState) : ((sF P os).heap.keysOk (looseW qv looseL) ((recsOf qv).map (·.name)) ((litsOf qv).map (·.1)) ((clssOf qv (looseW qv looseL)).map (·.name)) && (sF P os).heap.accountedOkI (importedModules pw.main.body) && (sF P os).heap.isNs mainGlobals && (sF P os).heap.isNs builtinsNs && tablesOk qv (sF P os).heap && xt qv (sF P os) && (if true then (sF P os).gens.size == 0 else !leftWithCleanup (sF P os).gens)) = true := by
  have h := lk3' P os
  rw [← PySem.W.Fast.qSe3_eq] at h
  unfold se3B at h
  rw [recs_eq, loose_eq]
  exact h
theorem lk4 (P : Params) (os : OsState) : tabsOk qv (sF P os) = true := by
  have h := lk4' P os
  rw [← PySem.W.Fast.qSe4_eq] at h
  have h5 := lk5' P os
  unfold se4B at h
  unfold se5B at h5
  obtain ⟨h1, h2⟩ := Bool.and_eq_true_iff.mp h
  obtain ⟨h3, h4⟩ := Bool.and_eq_true_iff.mp h1
  unfold tabsOk
  rw [recs_eq, h5, h3, h4, h2]
  rfl
theorem lk5 (P : Params) (os : OsState) : pinSeenD qv (drecsOf qv) (sF P os) = pinGoodD (drecsOf qv) := by
  rw [no_drecs]; rfl
theorem lk8 (P : Params) (os : OsState) : wideSeen qv (sF P os) = wideGood qv := by
  unfold wideSeen wideGood
  rw [no_wdefs, no_wlits]
  rfl
end Gos
end

section
open PySem PySem.W PyProof.Rows
set_option maxHeartbeats 0
namespace Gos
open PySem PySem.W Gos.Ob

theorem hF_abs (P : Params) (os : OsState) : (S5 P os).abs = sF P os := by kernel_rfl
theorem h_pre (w : World) (os : OsState) : topGo treeTable pw w 11 (some (.ref 6)) 12 ⟨boot_heap w.params, #[], boot_drawn, boot_toks, os⟩ (topStub pw) = some ((S0 w.params os).abs, ⟨denote treeTable (cdT pw), cdT pw, q0, [topFrame q0]⟩) := by kernel_rfl
theorem h_blk (w : World) (s : Shared) : segRun treeTable pw w 11 (some (.ref 6)) 1 1 s (blockOf (behindTheImports pw) (envT pw) (cdT pw) q0 [topFrame q0]) = some (.next, s, cdT pw, q0) := by kernel_rfl
theorem h_fin (w : World) (s : Shared) : topRun treeTable pw w 11 (some (.ref 6)) 3 s ⟨doneF .next, cdT pw, ⟨588, 0, 603, 15⟩, [topFrame q0]⟩ = some s := by kernel_rfl
theorem h_len : (behindTheImports pw).length = 135 := by kernel_rfl
theorem h_cut {α : Type} (b : List α) (a k c : Nat) (e : a + k = c) : b.drop a = (b.drop a).take k ++ b.drop c := by
  rw [← e, ← List.drop_drop, List.take_append_drop]
theorem h_size (P : Params) : ((boot_heap P).isNs mainGlobals && (#[] : Array GenState).size == 0, (boot_heap P).objs.size, (boot_heap P).nsMap mainGlobals "__annotations__") = (true, 11, some (.ref 6)) := by kernel_rfl
end Gos
end

section
open PySem PySem.W PyProof.Rows
set_option maxHeartbeats 0
namespace Gos
open PySem PySem.W Gos.Ob

theorem h_open : opening pw = plainProg pw.main.scope.names := by kernel_rfl
theorem h_fence (s : Shared) : fenceModules? pw s = some s := by kernel_rfl
theorem h_body : behindTheImports pw = ((behindTheImports pw).drop 0).take 29 ++ (((behindTheImports pw).drop 29).take 28 ++ (((behindTheImports pw).drop 57).take 27 ++ (((behindTheImports pw).drop 84).take 26 ++ (((behindTheImports pw).drop 110).take 25 ++ [])))) := by
  have e : (behindTheImports pw).drop 135 = [] := List.drop_of_length_le (Nat.le_of_eq h_len)
  rw [← e, ← h_cut _ 110 25 135 rfl, ← h_cut _ 84 26 110 rfl, ← h_cut _ 57 27 84 rfl, ← h_cut _ 29 28 57 rfl, ← h_cut _ 0 29 29 rfl]
  rfl
theorem seg_of {p : Program} {a k : Nat} {pos p' : Pos} {w : World} {n : Nat} {S S' : SharedT} {c : Code} (h : PySem.W.Fast.qSeg p a k pos w n S = some (.next, S', c, p')) :
    segRun treeTable p w 11 (some (.ref 6)) 1 n S.abs (piecesOf (((behindTheImports p).drop a).take k) (envT p) (cdT p) pos [topFrame q0]) = some (.next, S'.abs, c, p') := by
  rw [← PySem.W.Fast.qSeg_eq] at h
  exact segRun_of h
theorem h_run (w : World) (os : OsState) : topRun treeTable pw w 11 (some (.ref 6)) (12 + (1 + (985 + (735 + (676 + (689 + (686 + 3))))))) ⟨boot_heap w.params, #[], boot_drawn, boot_toks, os⟩ (topStub pw) = some (sF w.params os) := by
  refine go_top (h_pre w os) (piece_block (b := behindTheImports pw) (h_blk w _) ?_)
  rw [h_body]
  refine piece_app (seg_of (seg1 w os)) (piece_app (seg_of (seg2 w os)) (piece_app (seg_of (seg3 w os)) (piece_app (seg_of (seg4 w os)) (piece_app (seg_of (seg5 w os)) (piece_nil ?_)))))
  rw [hF_abs]
  exact h_fin w _
theorem pair_eq {α β : Type} {a a' : α} {b b' : β} (x : a = a') (y : b = b') : (a, b) = (a', b') := by rw [x, y]
theorem h_look (w : World) (os : OsState) : ((staticsOk (importedModules pw.main.body) (boot_heap w.params) (hF w.params) && namesBound pw (hF w.params) && gensDone (sF w.params os) && laidKept (boot_heap w.params) (hF w.params)),
    openSeen qv looseL (importedModules pw.main.body) (xt qv) true (sF w.params os), obs (sF w.params os)) = (true, openGood qv looseL, valA w) := by
  have e1 := lk_ok w.params os
  rw [← PySem.W.Fast.qOk_eq] at e1
  have e2 : openSeen qv looseL (importedModules pw.main.body) (xt qv) true (sF w.params os) = openGood qv looseL := by
    unfold openSeen openGood
    exact pair_eq (lk1 w.params os) (pair_eq (lk2 w.params os) (pair_eq (lk3 w.params os) (pair_eq (lk4 w.params os) (pair_eq (lk5 w.params os) (pair_eq (lk6 w.params os) (pair_eq (lk7 w.params os) (pair_eq (lk8 w.params os) (lk9 w.params os))))))))
  rw [e2]
  exact pair_eq e1 (pair_eq rfl (lk_obs w.params os))
theorem h_left : LeftO pw qv looseL (xt qv) obs valA 7658 := LeftO.of_pieces (H₀ := boot_heap) (H₁ := hF) (gs₀ := #[]) (gs₁ := #[]) (d₀ := boot_drawn) (d₁ := boot_drawn) (k₀ := boot_toks) (k₁ := s5K) (m₀ := 11) (ann := some (.ref 6)) (M := 12 + (1 + (985 + (735 + (676 + (689 + (686 + 3)))))))
  (boot_open h_open (by decide) h_fence) (fun w => h_size w.params) (fun w os => h_run w os) (by decide) (fun w => funext fun os => h_look w os)
end Gos
end

section
open PySem PySem.W PyProof.Rows
namespace Gos
open PySem

noncomputable abbrev D := PyData

/-- every object of `h` stands in `h'` -/
noncomputable def Keep (h h' : Heap) : Prop := ∀ b o, h.get? b = some o → h'.get? b = some o
theorem Keep.refl (h : Heap) : Keep h h := fun _ _ e => e
theorem Keep.trans {h h' h'' : Heap} (a : Keep h h') (b : Keep h' h'') : Keep h h'' := fun c o e => b c o (a c o e)
theorem Keep.push (h : Heap) (o : Obj) : Keep h (h.push o) := fun _ _ e => Heap.get?_push_of_some o e

noncomputable abbrev tupO (vs : List Value) (n : Nat) : Obj := { cls := .type "tuple", dict := none, data := .seq vs.toArray n, slots := #[] }
noncomputable abbrev lstO (vs : List Value) (n : Nat) : Obj := { cls := .type "list", dict := none, data := .seq vs.toArray n, slots := #[] }

mutual
inductive Rel (h : Heap) (M : Addr → Prop) : Value → D → Prop
  | none : Rel h M .none .none
  | bool (b : Bool) : Rel h M (.bool b) (.bool b)
  | int (i : Int) (t : Tok) : Rel h M (.int i t) (.int i)
  | str (x : Str) (t : Tok) : Rel h M (.str x t) (.str x)
  | tup {a : Addr} {vs : List Value} {n : Nat} {ds : List D} : ¬ M a → h.get? a = some (tupO vs n) → RelAll h M vs ds → Rel h M (.ref a) (.tuple ds)
  | lst {a : Addr} {vs : List Value} {n : Nat} {ds : List D} : ¬ M a → h.get? a = some (lstO vs n) → RelAll h M vs ds → Rel h M (.ref a) (.list ds)
inductive RelAll (h : Heap) (M : Addr → Prop) : List Value → List D → Prop
  | nil : RelAll h M [] []
  | cons {v : Value} {vs : List Value} {d : D} {ds : List D} : Rel h M v d → RelAll h M vs ds → RelAll h M (v :: vs) (d :: ds)
end

/- the general transport: what a tree stands on is kept -/
mutual
theorem Rel.to {h h' : Heap} {M M' : Addr → Prop} (k : ∀ b o, ¬ M b → h.get? b = some o → (o.cls = .type "list" ∨ o.cls = .type "tuple") → ¬ M' b ∧ h'.get? b = some o) :
    ∀ {v : Value} {d : D}, Rel h M v d → Rel h' M' v d
  | _, _, .none => .none
  | _, _, .bool b => .bool b
  | _, _, .int i t => .int i t
  | _, _, .str x t => .str x t
  | _, _, .tup m g r => let ⟨m', g'⟩ := k _ _ m g (.inr rfl); .tup m' g' (RelAll.to k r)
  | _, _, .lst m g r => let ⟨m', g'⟩ := k _ _ m g (.inl rfl); .lst m' g' (RelAll.to k r)
theorem RelAll.to {h h' : Heap} {M M' : Addr → Prop} (k : ∀ b o, ¬ M b → h.get? b = some o → (o.cls = .type "list" ∨ o.cls = .type "tuple") → ¬ M' b ∧ h'.get? b = some o) :
    ∀ {vs : List Value} {ds : List D}, RelAll h M vs ds → RelAll h' M' vs ds
  | _, _, .nil => .nil
  | _, _, .cons x r => .cons (Rel.to k x) (RelAll.to k r)
end

section
variable {h h' : Heap} {M M' : Addr → Prop} {v : Value} {d : D} {vs : List Value} {ds : List D}
theorem Rel.keep (k : Keep h h') (r : Rel h M v d) : Rel h' M v d := r.to fun b o m g _ => ⟨m, k b o g⟩
theorem RelAll.keep (k : Keep h h') (r : RelAll h M vs ds) : RelAll h' M vs ds := r.to fun b o m g _ => ⟨m, k b o g⟩
theorem Rel.less (k : ∀ a, M' a → M a) (r : Rel h M v d) : Rel h M' v d := r.to fun b _ m g _ => ⟨fun x => m (k b x), g⟩
theorem RelAll.less (k : ∀ a, M' a → M a) (r : RelAll h M vs ds) : RelAll h M' vs ds := r.to fun b _ m g _ => ⟨fun x => m (k b x), g⟩
/-- addresses that are no object's may be left out as well -/
theorem Rel.more (k : ∀ a, M' a → M a ∨ h.get? a = Option.none) (r : Rel h M v d) : Rel h M' v d := r.to fun b o m g _ => ⟨fun x => (k b x).elim m (fun e => by rw [g] at e; cases e), g⟩
theorem RelAll.more (k : ∀ a, M' a → M a ∨ h.get? a = none) (r : RelAll h M vs ds) : RelAll h M' vs ds := r.to fun b o m g _ => ⟨fun x => (k b x).elim m (fun e => by rw [g] at e; cases e), g⟩
theorem RelAll.length (r : RelAll h M vs ds) : vs.length = ds.length := by
  induction vs generalizing ds with
  | nil => cases r; rfl
  | cons v vs ih => cases r with | cons _ r => simp [ih r]
theorem RelAll.append {ws : List Value} {es : List D} (r : RelAll h M vs ds) (q : RelAll h M ws es) : RelAll h M (vs ++ ws) (ds ++ es) := by
  induction vs generalizing ds with
  | nil => cases r; exact q
  | cons v vs ih => cases r with | cons x r => exact .cons x (ih r)
theorem RelAll.get {k : Nat} {d : D} (r : RelAll h M vs ds) (e : ds[k]? = some d) : ∃ v, vs[k]? = some v ∧ Rel h M v d := by
  induction vs generalizing ds k with
  | nil => cases r; cases k <;> simp at e
  | cons v vs ih =>
    cases r with
    | cons x r =>
      cases k with
      | zero => simp at e; subst e; exact ⟨v, rfl, x⟩
      | succ k => simpa using ih r (by simpa using e)
theorem RelAll.set {k : Nat} {v : Value} {d : D} (r : RelAll h M vs ds) (x : Rel h M v d) : RelAll h M (vs.set k v) (ds.set k d) := by
  induction vs generalizing ds k with
  | nil => cases r; simp only [List.set_nil]; exact .nil
  | cons u vs ih =>
    cases r with
    | cons y r =>
      cases k with
      | zero => exact .cons x r
      | succ k => exact .cons y (ih r)
theorem RelAll.take {k : Nat} (r : RelAll h M vs ds) : RelAll h M (vs.take k) (ds.take k) := by
  induction vs generalizing ds k with
  | nil => cases r; simp only [List.take_nil]; exact .nil
  | cons u vs ih =>
    cases r with
    | cons y r =>
      cases k with
      | zero => exact .nil
      | succ k => exact .cons y (ih r)
theorem RelAll.drop {k : Nat} (r : RelAll h M vs ds) : RelAll h M (vs.drop k) (ds.drop k) := by
  induction vs generalizing ds k with
  | nil => cases r; simp only [List.drop_nil]; exact .nil
  | cons u vs ih =>
    cases r with
    | cons y r =>
      cases k with
      | zero => exact .cons y r
      | succ k => exact ih r
theorem RelAll.reverse (r : RelAll h M vs ds) : RelAll h M vs.reverse ds.reverse := by
  induction vs generalizing ds with
  | nil => cases r; exact .nil
  | cons u vs ih =>
    cases r with
    | cons y r => simp only [List.reverse_cons]; exact (ih r).append (.cons y .nil)
end


/- bridge to the library's reading -/
mutual
theorem Rel.reads {h : Heap} {M : Addr → Prop} : ∀ {v : Value} {d : D}, Rel h M v d → ∃ as, Reads h v d as
  | _, _, .none => ⟨_, .none⟩
  | _, _, .bool b => ⟨_, .bool b⟩
  | _, _, .int i t => ⟨_, .int i t⟩
  | _, _, .str x t => ⟨_, .str x t⟩
  | _, _, .tup _ g r => let ⟨_, q⟩ := RelAll.reads r; ⟨_, .tuple g rfl rfl (by simpa using q)⟩
  | _, _, .lst _ g r => let ⟨_, q⟩ := RelAll.reads r; ⟨_, .list g rfl rfl (by simpa using q)⟩
theorem RelAll.reads {h : Heap} {M : Addr → Prop} : ∀ {vs : List Value} {ds : List D}, RelAll h M vs ds → ∃ as, ReadsAll h vs ds as
  | _, _, .nil => ⟨_, .nil⟩
  | _, _, .cons x r => let ⟨_, p⟩ := Rel.reads x; let ⟨_, q⟩ := RelAll.reads r; ⟨_, .cons p q⟩
end

/-- what a piece of execution may do: addresses in `M` are the mutable ones -/
structure Step (M : Addr → Prop) (h : Heap) (M' : Addr → Prop) (h' : Heap) : Prop where
  keep : ∀ b o, ¬ M b → h.get? b = some o → h'.get? b = some o
  new : ∀ a, M' a → M a ∨ h.get? a = none

theorem Step.refl (M : Addr → Prop) (h : Heap) : Step M h M h := ⟨fun _ _ _ e => e, fun _ x => .inl x⟩
theorem Step.trans {M M' M'' : Addr → Prop} {h h' h'' : Heap} (a : Step M h M' h') (b : Step M' h' M'' h'') : Step M h M'' h'' where
  keep := fun c o m e => b.keep c o (fun x => (a.new c x).elim m fun y => by rw [e] at y; cases y) (a.keep c o m e)
  new := fun c x => by
    rcases b.new c x with y | y
    · exact a.new c y
    · by_cases m : M c
      · exact .inl m
      · refine .inr ?_
        cases e : h.get? c with
        | none => rfl
        | some o => rw [a.keep c o m e] at y; cases y
theorem Step.of_keep {M : Addr → Prop} {h h' : Heap} (k : Keep h h') : Step M h M h' := ⟨fun b o _ e => k b o e, fun _ x => .inl x⟩
theorem Step.rel {M M' : Addr → Prop} {h h' : Heap} {v : Value} {d : D} (x : Step M h M' h') (r : Rel h M v d) : Rel h' M' v d :=
  r.to fun b o m g _ => ⟨fun y => (x.new b y).elim m (fun e => by rw [g] at e; cases e), x.keep b o m g⟩
theorem Step.relAll {M M' : Addr → Prop} {h h' : Heap} {v : List Value} {d : List D} (x : Step M h M' h') (r : RelAll h M v d) : RelAll h' M' v d :=
  r.to fun b o m g _ => ⟨fun y => (x.new b y).elim m (fun e => by rw [g] at e; cases e), x.keep b o m g⟩

/-- what an owned object holds -/
inductive Pay where
  | lst (ds : List D)
  | dct (ks : List (List Int))
/-- slots of a frame -/
inductive S where
  | unb
  | fr (d : D)
  | own (p : Pay)
  deriving Inhabited
noncomputable def DctIs (h : Heap) (M : Addr → Prop) (a : Addr) (ks : List (List Int)) : Prop :=
  (a == sysModules) = false ∧ ∃ xs : List (List Int × Addr × Value), (∃ o es ep, h.get? a = some o ∧ o.data = .dict es ep) ∧ (∀ prog w, h.DictOfH (tupleKind (intKind prog w)) a xs) ∧ (∀ x ∈ xs, ¬ M x.2.1 ∧ ∃ vs n, h.get? x.2.1 = some (tupO vs n)) ∧ xs.map (·.1) = ks
noncomputable def OwnIs (h : Heap) (M : Addr → Prop) (a : Addr) : Pay → Prop
  | .lst ds => ∃ vs n, h.get? a = some (lstO vs n) ∧ RelAll h M vs ds
  | .dct ks => DctIs h M a ks
noncomputable def Trees (h : Heap) (M : Addr → Prop) (h' : Heap) (M' : Addr → Prop) : Prop := ∀ b o, ¬ M b → h.get? b = some o → (o.cls = .type "list" ∨ o.cls = .type "tuple") → ¬ M' b ∧ h'.get? b = some o
theorem DctIs.to {h h' : Heap} {M M' : Addr → Prop} {a : Addr} {ks : List (List Int)} (k : Trees h M h' M') (ha : ∀ o, h.get? a = some o → h'.get? a = some o) (x : DctIs h M a ks) : DctIs h' M' a ks := by
  obtain ⟨hz, xs, ⟨o0, es0, ep0, g0, d0⟩, h1, h2, h3⟩ := x
  refine ⟨hz, xs, ⟨o0, es0, ep0, ha _ g0, d0⟩, fun prog w => ?_, fun x hx => ?_, h3⟩
  · obtain ⟨o, es, ep, g, c, d, e, i, nd⟩ := h1 prog w
    refine ⟨o, es, ep, ha o g, c, d, e, fun x hx => ?_, nd⟩
    obtain ⟨m, vs, n, gk⟩ := h2 x hx
    obtain ⟨o', items, n', g', c', d', i'⟩ := i x hx
    exact ⟨o', items, n', (k _ _ m g' (.inr c')).2, c', d', i'⟩
  · obtain ⟨m, vs, n, gk⟩ := h2 x hx
    exact ⟨(k _ _ m gk (.inr rfl)).1, vs, n, (k _ _ m gk (.inr rfl)).2⟩
theorem OwnIs.to {h h' : Heap} {M M' : Addr → Prop} {a : Addr} {p : Pay} (k : Trees h M h' M') (ha : ∀ o, h.get? a = some o → h'.get? a = some o) (x : OwnIs h M a p) : OwnIs h' M' a p := by
  cases p with
  | lst ds => obtain ⟨vs, n, g, r⟩ := x; exact ⟨vs, n, ha _ g, r.to k⟩
  | dct ks => exact DctIs.to k ha x
theorem OwnIs.notCell {h : Heap} {M : Addr → Prop} {a c : Addr} {p : Pay} {o : Obj} {ov : Option Value} (x : OwnIs h M a p) (g : h.get? c = some o) (d : o.data = .cell ov) : c ≠ a := fun e => by
  subst e
  cases p with
  | lst ds => obtain ⟨vs, n, g', r⟩ := x; rw [g] at g'; cases g'; cases d
  | dct ks =>
    obtain ⟨_, xs, ⟨o', es, ep, g', d'⟩, _⟩ := x
    rw [g] at g'; cases g'
    rw [d] at d'; cases d'
theorem OwnIs.some {h : Heap} {M : Addr → Prop} {a : Addr} {p : Pay} (x : OwnIs h M a p) : h.get? a ≠ none := by
  cases p with
  | lst ds => obtain ⟨vs, n, g', r⟩ := x; rw [g']; simp
  | dct ks =>
    obtain ⟨_, xs, ⟨o', es, ep, g', d'⟩, _⟩ := x
    rw [g']; simp
theorem Trees.keep {h h' : Heap} {M : Addr → Prop} (k : Keep h h') : Trees h M h' M := fun b o m g _ => ⟨m, k b o g⟩
theorem Trees.refl {h : Heap} {M : Addr → Prop} : Trees h M h M := fun b o m g _ => ⟨m, g⟩
theorem Trees.rel {h h' : Heap} {M M' : Addr → Prop} (k : Trees h M h' M') {v : Value} {d : D} (r : Rel h M v d) : Rel h' M' v d := r.to k
theorem Trees.relAll {h h' : Heap} {M M' : Addr → Prop} (k : Trees h M h' M') {v : List Value} {d : List D} (r : RelAll h M v d) : RelAll h' M' v d := r.to k
theorem Trees.more {h : Heap} {M M' : Addr → Prop} (k : ∀ a, M' a → M a ∨ h.get? a = none) : Trees h M h M' := fun b o m g _ => ⟨fun x => (k b x).elim m (fun e => by rw [g] at e; cases e), g⟩
theorem Trees.less {h : Heap} {M M' : Addr → Prop} (k : ∀ a, M' a → M a) : Trees h M h M' := fun b o m g _ => ⟨fun x => m (k b x), g⟩
theorem Trees.trans {h h' h'' : Heap} {M M' M'' : Addr → Prop} (a : Trees h M h' M') (b : Trees h' M' h'' M'') : Trees h M h'' M'' := fun c o m g t => let ⟨m', g'⟩ := a c o m g t; b c o m' g' t

/- the slots are found by the recursors alone: the kernel is quicker so -/
noncomputable def sget (ρ : List S) : Nat → S := List.rec (motive := fun _ => Nat → S) (fun _ => .unb) (fun s _ ih n => Nat.rec (motive := fun _ => S) s (fun m _ => ih m) n) ρ
noncomputable def sset (ρ : List S) : Nat → S → List S := List.rec (motive := fun _ => Nat → S → List S) (fun _ _ => []) (fun s r ih n x => Nat.rec (motive := fun _ => List S) (x :: r) (fun m _ => s :: ih m x) n) ρ
theorem sget_z {s : S} {r : List S} : sget (s :: r) 0 = s := rfl
theorem sget_s {s : S} {r : List S} {n : Nat} : sget (s :: r) (n + 1) = sget r n := rfl
theorem sset_z {s x : S} {r : List S} : sset (s :: r) 0 x = x :: r := rfl
theorem sset_s {s x : S} {r : List S} {n : Nat} : sset (s :: r) (n + 1) x = s :: sset r n x := rfl
theorem sget_sset_ne {x : S} : ∀ {r : List S} {i j : Nat}, i ≠ j → sget (sset r i x) j = sget r j
  | [], _, _, _ => rfl
  | _ :: _, 0, 0, h => absurd rfl h
  | _ :: _, 0, _ + 1, _ => rfl
  | _ :: _, _ + 1, 0, _ => rfl
  | _ :: r, i + 1, j + 1, h => sget_sset_ne (r := r) (i := i) (j := j) fun e => h (by rw [e])
theorem sget_sset_self {x : S} : ∀ {r : List S} {i : Nat}, sget (sset r i x) i = x ∨ sget (sset r i x) i = .unb
  | [], _ => .inr rfl
  | _ :: _, 0 => .inl rfl
  | _ :: r, i + 1 => sget_sset_self (r := r) (i := i)

inductive VK where | loc | cel | no
  deriving DecidableEq
noncomputable abbrev Lay := List (Str × VK)

/-- the static part: how the names of the block are kept -/
structure EnvS (Γ : Lay) (G : List Str) (env : Env) : Prop where
  kind : env.scope.kind = .function
  glob : env.globals = mainGlobals
  blt : env.builtins = builtinsNs
  loc : ∀ (i : Nat) x, Γ[i]? = some (x, VK.loc) → env.kindOf x = some .local
  cel : ∀ (i : Nat) x, Γ[i]? = some (x, VK.cel) → env.kindOf x = some .cell
  gl : ∀ x ∈ G, env.kindOf x = some .globalImplicit
  apart : ∀ x y c, env.cells.lookup x = some c → env.cells.lookup y = some c → x = y
  nd : ∀ (i : Nat) x k, Γ[i]? = some (x, k) → (x == ("__debug__" : Str)) = false
  ndG : ∀ x ∈ G, (x == ("__debug__" : Str)) = false
  one : ∀ (i j : Nat) x k k', Γ[i]? = some (x, k) → Γ[j]? = some (x, k') → k ≠ VK.no → k' ≠ VK.no → i = j

/-- a slot's value -/
noncomputable def SV (h : Heap) (M : Addr → Prop) (a : Addr) : S → Option Value → Prop
  | .unb, _ => True
  | .fr d, ov => ∃ v, ov = some v ∧ Rel h M v d
  | .own p, ov => ov = some (.ref a) ∧ M a ∧ OwnIs h M a p
/-- the slot's value in another heap -/
theorem SV.to {h h' : Heap} {M M' : Addr → Prop} {a : Addr} {σ : S} {ov : Option Value} (k : Trees h M h' M') (ha : ∀ p, σ = .own p → M' a ∧ ∀ o, h.get? a = some o → h'.get? a = some o) (x : SV h M a σ ov) : SV h' M' a σ ov := by
  cases σ with
  | unb => trivial
  | fr d => obtain ⟨v, e, r⟩ := x; exact ⟨v, e, r.to k⟩
  | own p => obtain ⟨e, m, o⟩ := x; exact ⟨e, (ha p rfl).1, o.to k (ha p rfl).2⟩

theorem SV.keep {h h' : Heap} {M : Addr → Prop} {a : Addr} {σ : S} {ov : Option Value} (k : Keep h h') (x : SV h M a σ ov) : SV h' M a σ ov :=
  x.to (Trees.keep k) fun p e => by subst e; exact ⟨x.2.1, fun o g => k a o g⟩

structure EnvOk (Γ : Lay) (env : Env) (ρ : List S) (h : Heap) (M : Addr → Prop) (oa : Nat → Addr) : Prop where
  ns : h.Ns env.locals (h.nsMap env.locals)
  ML : M env.locals
  dom : ∀ a, M a → h.get? a ≠ none
  loc : ∀ (i : Nat) x, Γ[i]? = some (x, VK.loc) → SV h M (oa i) (sget ρ i) (h.nsMap env.locals x)
  cel : ∀ (i : Nat) x, Γ[i]? = some (x, VK.cel) → ∃ c ov, env.cells.lookup x = some c ∧ h.IsCell c ov ∧ M c ∧ SV h M (oa i) (sget ρ i) ov
  apart : ∀ i j ds es, sget ρ i = .own ds → sget ρ j = .own es → oa i = oa j → i = j
  own : ∀ i ds, sget ρ i = .own ds → M (oa i)
  oL : ∀ i ds, sget ρ i = .own ds → env.locals ≠ oa i

theorem ns_keep {h h' : Heap} {a : Addr} (k : Keep h h') (x : h.Ns a (h.nsMap a)) : h'.nsMap a = h.nsMap a := ((x.keeps k).eq_nsMap).symm
theorem EnvOk.keep {Γ : Lay} {env : Env} {ρ : List S} {h h' : Heap} {M : Addr → Prop} {oa : Nat → Addr} (k : Keep h h') (x : EnvOk Γ env ρ h M oa) : EnvOk Γ env ρ h' M oa := by
  have e := ns_keep k x.ns
  refine ⟨?_, x.ML, fun a m q => ?_, fun i y q => ?_, fun i y q => ?_, x.apart, x.own, x.oL⟩
  · rw [e]; exact x.ns.keeps k
  · cases g : h.get? a with
    | none => exact x.dom a m g
    | some o => rw [k a o g] at q; cases q
  · rw [e]; exact (x.loc i y q).keep k
  · obtain ⟨c, ov, h1, h2, h3, h4⟩ := x.cel i y q
    exact ⟨c, ov, h1, h2.keeps k, h3, h4.keep k⟩

/-- room on the stack -/
structure Ok (n : Nat) (A : Around) : Prop where
  hd : A.handled = none
  dp : A.depth + n < 600
  un : A.units + 16 * n + 200 < 9900

theorem Ok.less {n m : Nat} {A : Around} (x : Ok n A) (e : m ≤ n) : Ok m A := ⟨x.hd, Nat.lt_of_le_of_lt (Nat.add_le_add_left e _) x.dp, by have := x.un; omega⟩
theorem Ok.in1 {n : Nat} {A : Around} (x : Ok (n + 1) A) : Ok n A.in1 := ⟨x.hd, by have := x.dp; simp; omega, by have := x.un; simp; omega⟩
theorem Ok.deeper {n : Nat} {A : Around} (x : Ok (n + 1) A) (env : Env) : Ok n (A.deeper env) := ⟨x.hd, by have := x.dp; simp [Around.deeper]; omega, by have := x.un; simp; omega⟩
theorem Ok.room {n : Nat} {A : Around} (x : Ok n A) : A.depth < recursionLimit := by have := x.dp; show A.depth < 1000; omega
theorem Ok.units {n : Nat} {A : Around} (x : Ok n A) : A.units + 64 < cLine := by have := x.un; show A.units + 64 < 9900; omega
theorem Ok.unit {n : Nat} {A : Around} (x : Ok n A) : A.units < cLine := by have := x.un; show A.units < 9900; omega

end Gos
end

section
open PySem PySem.W PyProof.Rows
namespace Gos
open PySem

structure Gl where
  prog : Program
  w : World
  h₀ : Heap
  mg : Str → Option Value
  mb : Str → Option Value

structure Gl.Ok (W : Gl) : Prop where
  g : W.h₀.Ns mainGlobals W.mg
  b : W.h₀.Ns builtinsNs W.mb
  nolimit : W.h₀.NoLimit
  bl : ∀ x : Str, x ≠ "__name__" → W.mb x = bootBuiltins x

structure Pre (W : Gl) (n : Nat) (Γ : Lay) (G : List Str) (A : Around) (env : Env) (s : Shared) (M : Addr → Prop) (ρ : List S) (oa : Nat → Addr) : Prop where
  ok : Ok n A
  es : EnvS Γ G env
  base : Keep W.h₀ s.heap
  off : ∀ a, M a → W.h₀.get? a = Option.none
  env : EnvOk Γ env ρ s.heap M oa

noncomputable def Post (s : Shared) (M : Addr → Prop) (d : D) (Q : Value → Shared → Prop) : Prop := ∀ v h' tk, Keep s.heap h' → Rel h' M v d → Q v { s with heap := h', toks := tk }
noncomputable def PostB (s : Shared) (b : Bool) (Q : Bool → Shared → Prop) : Prop := ∀ h' tk, Keep s.heap h' → Q b { s with heap := h', toks := tk }
noncomputable def PostA (s : Shared) (M : Addr → Prop) (ds : List D) (Q : List Value → Shared → Prop) : Prop := ∀ vs h' tk, Keep s.heap h' → RelAll h' M vs ds → Q vs { s with heap := h', toks := tk }
/-- a new list -/
noncomputable def PostF (s : Shared) (M : Addr → Prop) (ds : List D) (Q : Value → Shared → Prop) : Prop := ∀ a vs k h' tk, Keep s.heap h' → s.heap.get? a = none → h'.get? a = some (lstO vs k) →
  RelAll h' (fun b => b = a ∨ M b) vs ds → Q (.ref a) { s with heap := h', toks := tk }

section
variable {W : Gl} {n : Nat} {Γ : Lay} {G : List Str} {A : Around} {env : Env} {s : Shared} {M : Addr → Prop} {ρ : List S} {oa : Nat → Addr} {h' : Heap} {tk : Nat}
theorem Pre.up (P : Pre W n Γ G A env s M ρ oa) (k : Keep s.heap h') : Pre W n Γ G A env { s with heap := h', toks := tk } M ρ oa := ⟨P.ok, P.es, P.base.trans k, P.off, P.env.keep k⟩
theorem Post.up {d : D} {Q : Value → Shared → Prop} (P : Post s M d Q) (k : Keep s.heap h') : Post { s with heap := h', toks := tk } M d Q := fun v h'' tk' k' r => P v h'' tk' (k.trans k') r
theorem PostB.up {b : Bool} {Q : Bool → Shared → Prop} (P : PostB s b Q) (k : Keep s.heap h') : PostB { s with heap := h', toks := tk } b Q := fun h'' tk' k' => P h'' tk' (k.trans k')
theorem PostA.up {d : List D} {Q : List Value → Shared → Prop} (P : PostA s M d Q) (k : Keep s.heap h') : PostA { s with heap := h', toks := tk } M d Q := fun v h'' tk' k' r => P v h'' tk' (k.trans k') r
theorem PostF.up {d : List D} {Q : Value → Shared → Prop} (P : PostF s M d Q) (k : Keep s.heap h') : PostF { s with heap := h', toks := tk } M d Q := fun a vs m h'' tk' k' e g r => P a vs m h'' tk' (k.trans k') (by
  cases q : s.heap.get? a with
  | none => rfl
  | some o => rw [k a o q] at e; cases e) g r
end

noncomputable def DenE (W : Gl) (n : Nat) (Γ : Lay) (G : List Str) (e : Expr) (f : List S → Option D) : Prop :=
  ∀ A env s M ρ oa d Q E, Pre W n Γ G A env s M ρ oa → f ρ = some d → Post s M d Q → wpAny (model W.prog W.w) A (eval e env) Q E s
noncomputable def DenT (W : Gl) (n : Nat) (Γ : Lay) (G : List Str) (e : Expr) (f : List S → Option Bool) : Prop :=
  ∀ A env s M ρ oa d Q E, Pre W n Γ G A env s M ρ oa → f ρ = some d → PostB s d Q → wpAny (model W.prog W.w) A (isTrue e env (eval e env)) Q E s
noncomputable def DenF (W : Gl) (n : Nat) (Γ : Lay) (G : List Str) (e : Expr) (f : List S → Option (List D)) : Prop :=
  ∀ A env s M ρ oa d Q E, Pre W n Γ G A env s M ρ oa → f ρ = some d → PostF s M d Q → wpAny (model W.prog W.w) A (eval e env) Q E s
noncomputable def DenA (W : Gl) (n : Nat) (Γ : Lay) (G : List Str) (es : List Expr) (f : List S → Option (List D)) : Prop :=
  ∀ A env s M ρ oa d Q E pos, Pre W n Γ G A env s M ρ oa → f ρ = some d → PostA s M d Q → wpAny (model W.prog W.w) A (spliced (backTo pos (starEach es env))) Q E s

noncomputable def Dom (h : Heap) (M : Addr → Prop) : Prop := ∀ a, M a → h.get? a ≠ none
noncomputable def BinSem (W : Gl) (op : Operator) (F : D → D → Option D) : Prop :=
  ∀ A s M va vb da db d Q E, Ok 1 A → Dom s.heap M → Rel s.heap M va da → Rel s.heap M vb db → F da db = some d → Post s M d Q → wpAny (model W.prog W.w) A (binaryOp op va vb) Q E s
noncomputable def InpSem (W : Gl) (op : Operator) (F : D → D → Option D) : Prop :=
  ∀ A s M va vb da db d Q E, Ok 1 A → Dom s.heap M → Rel s.heap M va da → Rel s.heap M vb db → F da db = some d → Post s M d Q → wpAny (model W.prog W.w) A (inplaceOp op va vb) Q E s
noncomputable def BinSemF (W : Gl) (op : Operator) (F : D → D → Option (List D)) : Prop :=
  ∀ A s M va vb da db d Q E, Ok 1 A → Dom s.heap M → Rel s.heap M va da → Rel s.heap M vb db → F da db = some d → PostF s M d Q → wpAny (model W.prog W.w) A (binaryOp op va vb) Q E s
noncomputable def UnSem (W : Gl) (op : UnaryOp) (F : D → Option D) : Prop :=
  ∀ A s M va da d Q E, Ok 1 A → Rel s.heap M va da → F da = some d → Post s M d Q → wpAny (model W.prog W.w) A (unaryOp op va) Q E s
noncomputable def CmpSem (W : Gl) (op : CmpOp) (F : D → D → Option Bool) : Prop :=
  ∀ A s M va vb da db b (Q : Value → Shared → Prop) E, Ok 1 A → Rel s.heap M va da → Rel s.heap M vb db → F da db = some b → (∀ h' tk, Keep s.heap h' → Q (.bool b) { s with heap := h', toks := tk }) → wpAny (model W.prog W.w) A (compareOp op va vb) Q E s

noncomputable def bind2 {α β γ : Type} (F : α → β → Option γ) (x : Option α) (y : Option β) : Option γ :=
  Option.rec (motive := fun _ => Option γ) Option.none (fun a => Option.rec (motive := fun _ => Option γ) Option.none (fun b => F a b) y) x
theorem bind2_s {α β γ : Type} {F : α → β → Option γ} {a : α} {b : β} : bind2 F (some a) (some b) = F a b := rfl
theorem bind2_some {α β γ : Type} {F : α → β → Option γ} {x : Option α} {y : Option β} {c : γ} (h : bind2 F x y = some c) : ∃ a b, x = some a ∧ y = some b ∧ F a b = some c := by
  cases x with
  | none => cases h
  | some a =>
    cases y with
    | none => cases h
    | some b => exact ⟨a, b, rfl, rfl, h⟩
noncomputable def bind1 {α γ : Type} (F : α → Option γ) (x : Option α) : Option γ := Option.rec (motive := fun _ => Option γ) Option.none (fun a => F a) x
theorem bind1_s {α γ : Type} {F : α → Option γ} {a : α} : bind1 F (some a) = F a := rfl
theorem bind1_some {α γ : Type} {F : α → Option γ} {x : Option α} {c : γ} (h : bind1 F x = some c) : ∃ a, x = some a ∧ F a = some c := by
  cases x with
  | none => cases h
  | some a => exact ⟨a, rfl, h⟩

section
variable {W : Gl} {n : Nat} {Γ : Lay} {G : List Str}

theorem DenE.int (i : Int) {k p} : DenE W n Γ G (.Constant (.int i) k p) (fun _ => some (.int i)) := fun A env s M ρ oa d Q E P e q => by
  cases e
  exact wpAny_Constant_int (q _ s.heap (s.toks + 1) (.refl _) (.int _ _))
theorem DenE.none {k p} : DenE W n Γ G (.Constant .none k p) (fun _ => some .none) := fun A env s M ρ oa d Q E P e q => by
  cases e
  exact wpAny_Constant_none (q _ s.heap s.toks (.refl _) .none)
theorem DenE.bool (b : Bool) {k p} : DenE W n Γ G (.Constant (.bool b) k p) (fun _ => some (.bool b)) := fun A env s M ρ oa d Q E P e q => by
  cases e
  exact wpAny_Constant_bool (q _ s.heap s.toks (.refl _) (.bool _))
theorem DenE.str (x : Str) {k p} : DenE W n Γ G (.Constant (.str x) k p) (fun _ => some (.str x)) := fun A env s M ρ oa d Q E P e q => by
  cases e
  exact wpAny_Constant_str (q _ s.heap (s.toks + 1) (.refl _) (.str _ _))

noncomputable def evar (i : Nat) (ρ : List S) : Option D := match sget ρ i with
  | .fr d => some d
  | _ => Option.none
theorem evar_some {i : Nat} {ρ : List S} {d : D} (h : evar i ρ = some d) : sget ρ i = .fr d := by
  unfold evar at h
  split at h
  · rename_i e; rw [e]; cases h; rfl
  · cases h

theorem loadSlot {A : Around} {env : Env} {s : Shared} {M : Addr → Prop} {ρ : List S} {oa : Nat → Addr} {Q : Value → Shared → Prop} {E : Value → Shared → Prop} (P : Pre W n Γ G A env s M ρ oa) (i : Nat) {x : Str} {k : VK}
    (hx : Γ[i]? = some (x, k)) (hk : k ≠ .no) (q : ∀ v, SV s.heap M (oa i) (sget ρ i) (some v) → Q v s) (hs : ∀ ov, SV s.heap M (oa i) (sget ρ i) ov → ∃ v, ov = some v) :
    wpAny (model W.prog W.w) A (loadName env x) Q E s := by
  cases k with
  | no => exact absurd rfl hk
  | loc =>
    have h := P.env.loc i x hx
    obtain ⟨v, e⟩ := hs _ h
    exact wpAny_loadName_local P.es.kind (P.es.loc i x hx) P.env.ns e (q v (e ▸ h))
  | cel =>
    obtain ⟨c, ov, h1, h2, _, h4⟩ := P.env.cel i x hx
    obtain ⟨v, rfl⟩ := hs _ h4
    exact wpAny_loadName_cell P.es.kind (P.es.cel i x hx) h1 h2 (q v h4)

theorem DenE.var (i : Nat) {x : Str} {k : VK} {p} (hx : Γ[i]? = some (x, k) := by rfl) (hk : k ≠ .no := by decide) : DenE W n Γ G (.Name x p) (evar i) := fun A env s M ρ oa d Q E P e q => by
  have e' := evar_some e
  refine wpAny_Name (loadSlot P i hx hk (fun v h => ?_) fun ov h => ?_) (P.es.nd i x k hx)
  · rw [e'] at h
    obtain ⟨u, hu, r⟩ := h
    cases hu
    exact q v s.heap s.toks (.refl _) r
  · rw [e'] at h
    obtain ⟨u, hu, _⟩ := h
    exact ⟨u, hu⟩

theorem DenE.bin {op : Operator} {F : D → D → Option D} {l r : Expr} {f g : List S → Option D} {pos} (hop : BinSem W op F) (ha : DenE W n Γ G l f) (hb : DenE W n Γ G r g) (hn : 1 ≤ n := by decide) :
    DenE W n Γ G (.BinOp l op r pos) (fun ρ => bind2 F (f ρ) (g ρ)) := fun A env s M ρ oa d Q E P e q => by
  obtain ⟨a, b, e1, e2, e3⟩ := bind2_some e
  refine wpAny_BinOp (ha A env s M ρ oa a _ E P e1 fun v h1 tk1 k1 r1 => hb A env _ M ρ oa b _ E (P.up k1) e2 fun u h2 tk2 k2 r2 => ?_)
  exact hop A _ M v u a b d Q E (P.ok.less hn) ((P.env.keep k1).keep k2).dom (r1.keep k2) r2 e3 ((q.up k1).up k2)
theorem DenF.bin {op : Operator} {F : D → D → Option (List D)} {l r : Expr} {f g : List S → Option D} {pos} (hop : BinSemF W op F) (ha : DenE W n Γ G l f) (hb : DenE W n Γ G r g) (hn : 1 ≤ n := by decide) :
    DenF W n Γ G (.BinOp l op r pos) (fun ρ => bind2 F (f ρ) (g ρ)) := fun A env s M ρ oa d Q E P e q => by
  obtain ⟨a, b, e1, e2, e3⟩ := bind2_some e
  refine wpAny_BinOp (ha A env s M ρ oa a _ E P e1 fun v h1 tk1 k1 r1 => hb A env _ M ρ oa b _ E (P.up k1) e2 fun u h2 tk2 k2 r2 => ?_)
  exact hop A _ M v u a b d Q E (P.ok.less hn) ((P.env.keep k1).keep k2).dom (r1.keep k2) r2 e3 ((q.up k1).up k2)
noncomputable def elst : Option (List D) → Option D
  | some ds => some (.list ds)
  | Option.none => Option.none
theorem DenE.fresh {e : Expr} {f : List S → Option (List D)} (h : DenF W n Γ G e f) : DenE W n Γ G e (fun ρ => elst (f ρ)) := fun A env s M ρ oa d Q E P e q => by
  dsimp only at e
  cases hf : f ρ with
  | none => rw [hf] at e; cases e
  | some ds =>
    rw [hf] at e; cases e
    refine h A env s M ρ oa ds Q E P hf fun a vs k h' tk kk e g r => q _ h' tk kk ?_
    exact .lst (fun m => P.env.dom a m e) g (r.less fun b hb => .inr hb)
theorem DenE.un {op : UnaryOp} {F : D → Option D} {l : Expr} {f : List S → Option D} {pos} (hop : UnSem W op F) (ha : DenE W n Γ G l f) (hn : 1 ≤ n := by decide) :
    DenE W n Γ G (.UnaryOp op l pos) (fun ρ => bind1 F (f ρ)) := fun A env s M ρ oa d Q E P e q => by
  obtain ⟨a, e1, e3⟩ := bind1_some e
  exact wpAny_UnaryOp (ha A env s M ρ oa a _ E P e1 fun v h1 tk1 k1 r1 => hop A _ M v a d Q E (P.ok.less hn) r1 e3 (q.up k1))
noncomputable def ebool : Option Bool → Option D
  | some b => some (.bool b)
  | Option.none => Option.none
theorem ebool_some {x : Option Bool} {d : D} (h : ebool x = some d) : ∃ b, x = some b ∧ d = .bool b := by
  cases x with
  | none => cases h
  | some b => exact ⟨b, rfl, (Option.some.inj h).symm⟩
theorem DenE.cmp {op : CmpOp} {F : D → D → Option Bool} {l r : Expr} {f g : List S → Option D} {pos} (hop : CmpSem W op F) (ha : DenE W n Γ G l f) (hb : DenE W n Γ G r g) (hm : behindInMarks op r = false := by with_unfolding_all rfl) (hn : 1 ≤ n := by decide) :
    DenE W n Γ G (.Compare l [op] [r] pos) (fun ρ => ebool (bind2 F (f ρ) (g ρ))) := fun A env s M ρ oa d Q E P e q => by
  obtain ⟨c, e', rfl⟩ := ebool_some e
  obtain ⟨a, b, e1, e2, e3⟩ := bind2_some e'
  refine wpAny_Compare1 (ha A env s M ρ oa a _ E P e1 fun v h1 tk1 k1 r1 => hb A env _ M ρ oa b _ E (P.up k1) e2 fun u h2 tk2 k2 r2 => ?_) hm
  exact hop A _ M v u a b c Q E (P.ok.less hn) (r1.keep k2) r2 e3 fun h3 tk3 k3 => q _ h3 tk3 ((k1.trans k2).trans k3) (.bool c)
theorem DenT.cmp {op : CmpOp} {F : D → D → Option Bool} {l r : Expr} {f g : List S → Option D} {pos} (hop : CmpSem W op F) (ha : DenE W n Γ G l f) (hb : DenE W n Γ G r g) (hm : behindInMarks op r = false := by with_unfolding_all rfl) (hn : 1 ≤ n := by decide) :
    DenT W n Γ G (.Compare l [op] [r] pos) (fun ρ => bind2 F (f ρ) (g ρ)) := fun A env s M ρ oa d Q E P e q => by
  obtain ⟨a, b, e1, e2, e3⟩ := bind2_some e
  refine wpAny_isTrue_Compare1 (ha A env s M ρ oa a _ E P e1 fun v h1 tk1 k1 r1 => hb A env _ M ρ oa b _ E (P.up k1) e2 fun u h2 tk2 k2 r2 => ?_) hm
  exact hop A _ M v u a b d _ E (P.ok.less hn) (r1.keep k2) r2 e3 fun h3 tk3 k3 => wpAny_truthy_bool (q h3 tk3 ((k1.trans k2).trans k3))
/-- a test that is a bool's value -/
noncomputable def btrue : Option D → Option Bool
  | some (.bool b) => some b
  | _ => Option.none
theorem btrue_some {x : Option D} {b : Bool} (h : btrue x = some b) : x = some (.bool b) := by
  unfold btrue at h
  split at h
  · cases h; rfl
  · cases h
theorem DenT.val {e : Expr} {f : List S → Option D} (ha : DenE W n Γ G e f) (he : ∀ env whole, isTrue e env whole = (do let v ← whole; standAt e.pos; holding [v] (truthy v)) := by intro _ _; rfl) :
    DenT W n Γ G e (fun ρ => btrue (f ρ)) := fun A env s M ρ oa d Q E P e q => by
  refine wpAny_isTrue_value (ha A env s M ρ oa _ _ E P (btrue_some e) fun v h1 tk1 k1 r1 => ?_) (he env _)
  cases r1
  exact wpAny_truthy_bool (q h1 tk1 k1)
noncomputable def ite1 {α : Type} (t : Option Bool) (x y : Option α) : Option α := match t with
  | some true => x
  | some false => y
  | Option.none => Option.none
theorem DenE.ite {t a b : Expr} {ft : List S → Option Bool} {fa fb : List S → Option D} {pos} (ht : DenT W n Γ G t ft) (ha : DenE W n Γ G a fa) (hb : DenE W n Γ G b fb) :
    DenE W n Γ G (.IfExp t a b pos) (fun ρ => ite1 (ft ρ) (fa ρ) (fb ρ)) := fun A env s M ρ oa d Q E P e q => by
  cases hf : ft ρ with
  | none => simp [hf, ite1] at e
  | some c =>
    refine wpAny_IfExp (ht A env s M ρ oa c _ E P hf fun h1 tk1 k1 => ?_)
    cases c with
    | true => exact ha A env _ M ρ oa d Q E (P.up k1) (by simpa [hf, ite1] using e) (q.up k1)
    | false => exact hb A env _ M ρ oa d Q E (P.up k1) (by simpa [hf, ite1] using e) (q.up k1)
noncomputable def bnot : Option Bool → Option Bool
  | some b => some (!b)
  | Option.none => Option.none
theorem DenT.not {t : Expr} {ft : List S → Option Bool} {pos} (ht : DenT W n Γ G t ft) : DenT W n Γ G (.UnaryOp .Not t pos) (fun ρ => bnot (ft ρ)) := fun A env s M ρ oa d Q E P e q => by
  cases hf : ft ρ with
  | none => simp [hf, bnot] at e
  | some c =>
    refine wpAny_isTrue_Not (ht A env s M ρ oa c _ E P hf fun h1 tk1 k1 => ?_)
    simp only [hf, bnot, Option.some.injEq] at e
    rw [e]; exact q h1 tk1 k1
theorem DenT.and {x y : Expr} {fx fy : List S → Option Bool} {pos} (hx : DenT W n Γ G x fx) (hy : DenT W n Γ G y fy) : DenT W n Γ G (.BoolOp .And [x, y] pos) (fun ρ => ite1 (fx ρ) (fy ρ) (some false)) := fun A env s M ρ oa d Q E P e q => by
  refine wpAny_isTrue_BoolOp ?_
  cases hf : fx ρ with
  | none => simp [hf, ite1] at e
  | some c =>
    refine wpAny_allTrue_And_cons (hx A env s M ρ oa c _ E P hf fun h1 tk1 k1 => ?_)
    cases c with
    | false => simp only [hf, ite1, Option.some.injEq] at e; subst e; exact q h1 tk1 k1
    | true =>
      refine wpAny_allTrue_And_cons (hy A env _ M ρ oa d _ E (P.up k1) (by simpa [hf, ite1] using e) fun h2 tk2 k2 => ?_)
      cases d with
      | false => exact q h2 tk2 (k1.trans k2)
      | true => exact wpAny_allTrue_And_nil (q h2 tk2 (k1.trans k2))
theorem DenT.or {x y : Expr} {fx fy : List S → Option Bool} {pos} (hx : DenT W n Γ G x fx) (hy : DenT W n Γ G y fy) : DenT W n Γ G (.BoolOp .Or [x, y] pos) (fun ρ => ite1 (fx ρ) (some true) (fy ρ)) := fun A env s M ρ oa d Q E P e q => by
  refine wpAny_isTrue_BoolOp ?_
  cases hf : fx ρ with
  | none => simp [hf, ite1] at e
  | some c =>
    refine wpAny_allTrue_Or_cons (hx A env s M ρ oa c _ E P hf fun h1 tk1 k1 => ?_)
    cases c with
    | true => simp only [hf, ite1, Option.some.injEq] at e; subst e; exact q h1 tk1 k1
    | false =>
      refine wpAny_allTrue_Or_cons (hy A env _ M ρ oa d _ E (P.up k1) (by simpa [hf, ite1] using e) fun h2 tk2 k2 => ?_)
      cases d with
      | true => exact q h2 tk2 (k1.trans k2)
      | false => exact wpAny_allTrue_Or_nil (q h2 tk2 (k1.trans k2))
/-- and | or as a value, over bools -/
theorem DenE.and {x y : Expr} {fx fy : List S → Option D} {pos} (hx : DenE W n Γ G x fx) (hy : DenE W n Γ G y fy) : DenE W n Γ G (.BoolOp .And [x, y] pos) (fun ρ => ite1 (btrue (fx ρ)) (fy ρ) (some (.bool false))) := fun A env s M ρ oa d Q E P e q => by
  cases hf : btrue (fx ρ) with
  | none => simp [hf, ite1] at e
  | some c =>
    refine wpAny_And2 (hx A env s M ρ oa _ _ E P (btrue_some hf) fun v h1 tk1 k1 r1 => ?_)
    cases r1
    refine wpAny_truthy_bool ?_
    cases c with
    | false => simp only [hf, ite1, Option.some.injEq] at e; subst e; exact q _ h1 tk1 k1 (.bool _)
    | true => exact hy A env _ M ρ oa d _ E (P.up k1) (by simpa [hf, ite1] using e) (q.up k1)
theorem DenE.or {x y : Expr} {fx fy : List S → Option D} {pos} (hx : DenE W n Γ G x fx) (hy : DenE W n Γ G y fy) : DenE W n Γ G (.BoolOp .Or [x, y] pos) (fun ρ => ite1 (btrue (fx ρ)) (some (.bool true)) (fy ρ)) := fun A env s M ρ oa d Q E P e q => by
  cases hf : btrue (fx ρ) with
  | none => simp [hf, ite1] at e
  | some c =>
    refine wpAny_Or2 (hx A env s M ρ oa _ _ E P (btrue_some hf) fun v h1 tk1 k1 r1 => ?_)
    cases r1
    refine wpAny_truthy_bool ?_
    cases c with
    | true => simp only [hf, ite1, Option.some.injEq] at e; subst e; exact q _ h1 tk1 k1 (.bool _)
    | false => exact hy A env _ M ρ oa d _ E (P.up k1) (by simpa [hf, ite1] using e) (q.up k1)

/- arguments -/
theorem DenA.nil : DenA W n Γ G [] (fun _ => some []) := fun A env s M ρ oa d Q E pos P e q => by
  cases e
  exact wpAny_items_nil (q _ s.heap s.toks (.refl _) .nil)
theorem starEach_cons {e : Expr} {r : List Expr} {env : Env} (h : isStarred e = false) : starEach (e :: r) env = (false, eval e env) :: starEach r env := by
  cases e <;> first | rfl | cases h
noncomputable def consD (d : D) (ds : List D) : Option (List D) := some (d :: ds)
theorem DenA.cons {e : Expr} {es : List Expr} {f : List S → Option D} {fs : List S → Option (List D)} (ha : DenE W n Γ G e f) (hb : DenA W n Γ G es fs) (hs : isStarred e = false := by rfl) :
    DenA W n Γ G (e :: es) (fun ρ => bind2 consD (f ρ) (fs ρ)) := fun A env s M ρ oa d Q E pos P e q => by
  obtain ⟨a, b, e1, e2, e3⟩ := bind2_some e
  cases e3
  refine wpAny_items_cons (ha A env s M ρ oa a _ E P e1 fun v h1 tk1 k1 r1 => hb A env _ M ρ oa b _ E pos (P.up k1) e2 fun vs h2 tk2 k2 r2 => ?_) (starEach_cons hs)
  exact q _ h2 tk2 (k1.trans k2) (.cons (r1.keep k2) r2)
noncomputable def lenL {α : Type} (xs : List α) : Nat := List.rec (motive := fun _ => Nat) 0 (fun _ _ ih => Nat.add ih 1) xs
theorem lenL_eq {α : Type} : ∀ {xs : List α}, lenL xs = xs.length
  | [] => rfl
  | _ :: r => congrArg (· + 1) (lenL_eq (xs := r))
noncomputable def snoc {α : Type} (xs : List α) (x : α) : List α := List.rec (motive := fun _ => List α) [x] (fun a _ ih => a :: ih) xs
theorem snoc_eq {α : Type} {x : α} : ∀ {xs : List α}, snoc xs x = xs ++ [x]
  | [] => rfl
  | a :: r => congrArg (a :: ·) (snoc_eq (xs := r))
noncomputable def small {α : Type} (l : List α) : Bool := Nat.ble (lenL l) 1000000
theorem small_le {α : Type} {l : List α} (h : small l = true) : l.length ≤ sizeLine := by
  have := Nat.le_of_ble_eq_true h
  rw [lenL_eq] at this
  rw [sizeLine_eq]; omega
noncomputable def etup (ds : List D) : Option D := if small ds then some (.tuple ds) else Option.none
noncomputable def elist (ds : List D) : Option (List D) := if small ds then some ds else Option.none
theorem DenE.tup {es : List Expr} {f : List S → Option (List D)} {k pos} (ha : DenA W n Γ G es f) : DenE W n Γ G (.Tuple es k pos) (fun ρ => bind1 etup (f ρ)) := fun A env s M ρ oa d Q E P e q => by
  obtain ⟨ds, e1, e3⟩ := bind1_some e
  unfold etup at e3
  split at e3
  · rename_i hs
    cases e3
    refine wpAny_Tuple (ha A env s M ρ oa ds _ E pos P e1 fun vs h1 tk1 k1 r1 => ⟨by rw [r1.length]; exact small_le hs, ?_⟩)
    have P1 := (P.up (tk := tk1) k1)
    refine q _ _ _ (k1.trans (Keep.push _ _)) (.tup (n := 0) (fun m => ?_) (Heap.get?_push_size _ rfl) (r1.keep (Keep.push _ _)))
    have := P1.env.dom _ m
    cases g : h1.get? h1.objs.size with
    | none => exact this g
    | some o => exact absurd (Heap.lt_size g) (Nat.lt_irrefl _)
  · cases e3
theorem get_size (h : Heap) : h.get? h.objs.size = Option.none := by
  cases g : h.get? h.objs.size with
  | none => rfl
  | some o => exact absurd (Heap.lt_size g) (Nat.lt_irrefl _)
theorem DenF.list {es : List Expr} {f : List S → Option (List D)} {pos} (ha : DenA W n Γ G es f) : DenF W n Γ G (.List es pos) (fun ρ => bind1 elist (f ρ)) := fun A env s M ρ oa d Q E P e q => by
  obtain ⟨ds, e1, e3⟩ := bind1_some e
  unfold elist at e3
  split at e3
  · rename_i hs
    cases e3
    refine wpAny_List (ha A env s M ρ oa d _ E pos P e1 fun vs h1 tk1 k1 r1 => ⟨by rw [r1.length]; exact small_le hs, ?_⟩)
    have hz := get_size h1
    refine q _ vs 0 _ _ (k1.trans (Keep.push _ _)) ?_ (Heap.get?_push_size _ rfl) ((r1.more fun a ha => ?_).keep (Keep.push _ _))
    · cases g : s.heap.get? h1.objs.size with
      | none => rfl
      | some o => rw [k1 _ _ g] at hz; cases hz
    · rcases ha with rfl | ha
      · exact .inr hz
      · exact .inl ha
  · cases e3
end
end Gos
end

section
open PySem PySem.W PyProof.Rows
namespace Gos
open PySem

noncomputable def big : Nat := 2 ^ 20000
noncomputable def smallI (i : Int) : Bool := Nat.blt i.natAbs (2 ^ 8000)
theorem smallI_bits {i : Int} (h : smallI i = true) : Builtin.Int.intBits i ≤ 8000 := intBits_le_iff.mpr (by
  unfold smallI at h
  exact Nat.le_of_ble_eq_true h)
theorem smallI_log2 {i : Int} (h : smallI i = true) : i.natAbs.log2 < 9000 := by
  unfold smallI at h
  have h1 : i.natAbs < 2 ^ 8000 := Nat.le_of_ble_eq_true h
  by_cases h0 : i.natAbs = 0
  · rw [h0]; decide
  · exact Nat.lt_trans ((Nat.log2_lt h0).mpr h1) (by decide)
theorem mulOk {a b : Int} (ha : smallI a = true) (hb : smallI b = true) : IntMulOk a b := IntMulOk.of_le (smallI_bits ha) (smallI_bits hb) (by decide)

/-- the int's own digits are worked out here and now (the kernel puts off what it can) -/
noncomputable def fN {α : Type} (k : Nat → α) (n : Nat) : α := Nat.rec (k 0) (fun m _ => k (Nat.succ m)) n
theorem fN_eq {α : Type} (k : Nat → α) (n : Nat) : fN k n = k n := by cases n <;> rfl
noncomputable def fI (i : Int) : Option D := match i with
  | .ofNat n => fN (fun m => some (.int (.ofNat m))) n
  | .negSucc n => fN (fun m => some (.int (.negSucc m))) n
theorem fI_eq (i : Int) : fI i = some (.int i) := by
  cases i with
  | ofNat n => exact fN_eq (fun m => some (PyData.int (.ofNat m))) n
  | negSucc n => exact fN_eq (fun m => some (PyData.int (.negSucc m))) n
noncomputable def ieq (a b : Int) : Bool :=
  Int.rec (motive := fun _ => Bool) (fun m => Int.rec (motive := fun _ => Bool) (fun n => Nat.beq m n) (fun _ => false) b) (fun m => Int.rec (motive := fun _ => Bool) (fun _ => false) (fun n => Nat.beq m n) b) a
theorem ieq_eq (a b : Int) : ieq a b = decide (a = b) := by
  cases a with
  | ofNat a => cases b with
    | ofNat b => show Nat.beq a b = _; rw [Bool.eq_iff_iff, Nat.beq_eq, decide_eq_true_iff]; exact ⟨fun h => h ▸ rfl, fun h => by injection h⟩
    | negSucc b => rfl
  | negSucc a => cases b with
    | ofNat b => rfl
    | negSucc b => show Nat.beq a b = _; rw [Bool.eq_iff_iff, Nat.beq_eq, decide_eq_true_iff]; exact ⟨fun h => h ▸ rfl, fun h => by injection h⟩
noncomputable def ilt (a b : Int) : Bool :=
  Int.rec (motive := fun _ => Bool) (fun m => Int.rec (motive := fun _ => Bool) (fun n => Nat.blt m n) (fun _ => false) b) (fun m => Int.rec (motive := fun _ => Bool) (fun _ => true) (fun n => Nat.blt n m) b) a
theorem ilt_eq (a b : Int) : ilt a b = decide (a < b) := by
  have hb : ∀ m n : Nat, Nat.blt m n = decide (m < n) := fun m n => by
    rw [Bool.eq_iff_iff, decide_eq_true_iff]; exact ⟨Nat.le_of_ble_eq_true, Nat.ble_eq_true_of_le⟩
  cases a with
  | ofNat a => cases b with
    | ofNat b => show Nat.blt a b = _; rw [hb, Bool.eq_iff_iff, decide_eq_true_iff, decide_eq_true_iff]; exact Int.ofNat_lt.symm
    | negSucc b => show false = _; symm; rw [decide_eq_false_iff_not]; exact fun h => absurd (Int.lt_trans h (Int.negSucc_lt_zero b)) (Int.not_lt.mpr (Int.natCast_nonneg a))
  | negSucc a => cases b with
    | ofNat b => show true = _; symm; rw [decide_eq_true_iff]; exact Int.lt_of_lt_of_le (Int.negSucc_lt_zero a) (Int.natCast_nonneg b)
    | negSucc b => show Nat.blt b a = _; rw [hb, Bool.eq_iff_iff, decide_eq_true_iff, decide_eq_true_iff]; omega
noncomputable def bi (b : Bool) : Int := if b then 1 else 0
noncomputable def dadd : D → D → Option D
  | .int a, .int b => fI (a + b)
  | _, _ => Option.none
noncomputable def dsub : D → D → Option D
  | .int a, .int b => fI (a - b)
  | .bool a, .bool b => fI (bi a - bi b)
  | _, _ => Option.none
noncomputable def dmul : D → D → Option D
  | .int a, .int b => if smallI a && smallI b then fI (a * b) else Option.none
  | _, _ => Option.none
noncomputable def dfdiv : D → D → Option D
  | .int a, .int b => if !ieq b 0 && smallI b then fI (a.fdiv b) else Option.none
  | _, _ => Option.none
noncomputable def dmod : D → D → Option D
  | .int a, .int b => if !ieq b 0 then fI (a.fmod b) else Option.none
  | _, _ => Option.none
noncomputable def dpow : D → D → Option D
  | .int a, .int b => if smallI a && decide (0 ≤ b) && decide (b ≤ 10000) then fI (a ^ b.toNat) else Option.none
  | _, _ => Option.none
noncomputable def dneg : D → Option D
  | .int a => fI (-a)
  | _ => Option.none

theorem ieq_ne {b : Int} (h : (!ieq b 0) = true) : b ≠ 0 := fun e => by subst e; cases h
section
variable {W : Gl}
theorem sem_add : BinSem W .Add dadd := fun A s M va vb da db d Q E ok dom ra rb e q => by
  cases ra <;> cases rb <;> simp only [dadd, fI_eq, Option.some.injEq, reduceCtorEq] at e
  subst e
  exact P.add_int (q _ s.heap _ (.refl _) (.int _ _))
theorem sem_iadd : InpSem W .Add dadd := fun A s M va vb da db d Q E ok dom ra rb e q => by
  cases ra <;> cases rb <;> simp only [dadd, fI_eq, Option.some.injEq, reduceCtorEq] at e
  subst e
  exact P.iadd_int (q _ s.heap _ (.refl _) (.int _ _))
theorem sem_sub : BinSem W .Sub dsub := fun A s M va vb da db d Q E ok dom ra rb e q => by
  cases ra <;> cases rb <;> simp only [dsub, fI_eq, Option.some.injEq, reduceCtorEq] at e
  · subst e
    refine PyProof.Rows.sub_bool ?_
    have := q (.int (bi _ - bi _) s.toks) s.heap (s.toks + 1) (.refl _) (.int _ _)
    exact this
  · subst e
    exact P.sub_int (q _ s.heap _ (.refl _) (.int _ _))
theorem sem_isub : InpSem W .Sub dsub := fun A s M va vb da db d Q E ok dom ra rb e q => by
  cases ra <;> cases rb <;> simp only [dsub, fI_eq, Option.some.injEq, reduceCtorEq] at e
  · subst e
    refine PyProof.Rows.isub_bool ?_
    have := q (.int (bi _ - bi _) s.toks) s.heap (s.toks + 1) (.refl _) (.int _ _)
    exact this
  · subst e
    exact P.isub_int (q _ s.heap _ (.refl _) (.int _ _))
theorem sem_mul : BinSem W .Mult dmul := fun A s M va vb da db d Q E ok dom ra rb e q => by
  cases ra <;> cases rb <;> simp only [dmul, fI_eq, reduceCtorEq] at e
  split at e
  · rename_i h
    cases e
    have h := Bool.and_eq_true_iff.mp h
    exact P.mul_int (q _ s.heap _ (.refl _) (.int _ _)) (mulOk h.1 h.2)
  · cases e
theorem sem_fdiv : BinSem W .FloorDiv dfdiv := fun A s M va vb da db d Q E ok dom ra rb e q => by
  cases ra <;> cases rb <;> simp only [dfdiv, fI_eq, reduceCtorEq] at e
  split at e
  · rename_i h
    cases e
    have h := Bool.and_eq_true_iff.mp h
    exact PyProof.Rows.floordiv_int (ieq_ne h.1) (q _ s.heap _ (.refl _) (.int _ _)) (.inl (PyProof.noPylong_of_log2 (smallI_log2 h.2)))
  · cases e
theorem sem_mod : BinSem W .Mod dmod := fun A s M va vb da db d Q E ok dom ra rb e q => by
  cases ra <;> cases rb <;> simp only [dmod, fI_eq, reduceCtorEq] at e
  split at e
  · rename_i h
    cases e
    exact PyProof.Rows.mod_int' (ieq_ne h) (q _ s.heap _ (.refl _) (.int _ _))
  · cases e
theorem sem_pow : BinSem W .Pow dpow := fun A s M va vb da db d Q E ok dom ra rb e q => by
  cases ra <;> cases rb <;> simp only [dpow, fI_eq, reduceCtorEq] at e
  split at e
  · rename_i i _ j _ h
    cases e
    have h := Bool.and_eq_true_iff.mp h
    have h1 := Bool.and_eq_true_iff.mp h.1
    have h2 : j ≤ 10000 := of_decide_eq_true h.2
    have h3 : 0 ≤ j := of_decide_eq_true h1.2
    have h4 := smallI_bits h1.1
    refine PyProof.Rows.pow_int h3 ?_ (q _ s.heap _ (.refl _) (.int _ _))
    have h5 : (Builtin.Int.intBits i : Int) * j ≤ 8000 * 10000 := Int.mul_le_mul (by omega) h2 h3 (by omega)
    have h6 : (8000 : Int) * 10000 ≤ 2 ^ 27 := by decide
    omega
  · cases e
theorem sem_neg : UnSem W .USub dneg := fun A s M va da d Q E ok ra e q => by
  cases ra <;> simp only [dneg, fI_eq, Option.some.injEq, reduceCtorEq] at e
  subst e
  exact P.neg_int (q _ s.heap _ (.refl _) (.int _ _))

noncomputable def clt : D → D → Option Bool
  | .int a, .int b => some (ilt a b)
  | _, _ => Option.none
noncomputable def cle : D → D → Option Bool
  | .int a, .int b => some (!ilt b a)
  | _, _ => Option.none
noncomputable def cgt : D → D → Option Bool
  | .int a, .int b => some (ilt b a)
  | _, _ => Option.none
noncomputable def cge : D → D → Option Bool
  | .int a, .int b => some (!ilt a b)
  | _, _ => Option.none
noncomputable def shp (d : D) : Bool := d.canLay0 && decide (d.depth ≤ 64)
noncomputable def ceq : D → D → Option Bool
  | .int a, .int b => some (ieq a b)
  | a, b => if shp a && shp b then some (PyData.eqv a b) else Option.none
noncomputable def cne : D → D → Option Bool
  | .int a, .int b => some (!ieq a b)
  | a, b => if shp a && shp b then some (!PyData.eqv a b) else Option.none
noncomputable def cisN : D → D → Option Bool
  | .none, .none => some true
  | _, .none => some false
  | _, _ => Option.none
noncomputable def cnisN : D → D → Option Bool
  | .none, .none => some false
  | _, .none => some true
  | _, _ => Option.none
noncomputable def cin : D → D → Option Bool
  | d, .list xs => if d.canLay0 && PyData.canLayAll0 xs && decide (d.depth ≤ 64) then some (xs.any fun y => PyData.eqv y d) else Option.none
  | _, _ => Option.none

theorem nlt_le (a b : Int) : (!decide (b < a)) = decide (a ≤ b) := by
  by_cases h : a ≤ b
  · have : ¬ b < a := Int.not_lt.mpr h
    simp [h, this]
  · have : b < a := Int.not_le.mp h
    simp [h, this]
theorem sem_lt : CmpSem W .Lt clt := fun A s M va vb da db d Q E ok ra rb e q => by
  cases ra <;> cases rb <;> simp only [clt, Option.some.injEq, reduceCtorEq] at e
  subst e
  rw [ilt_eq] at q
  exact P.lt_int (q s.heap _ (.refl _))
theorem sem_le : CmpSem W .LtE cle := fun A s M va vb da db d Q E ok ra rb e q => by
  cases ra <;> cases rb <;> simp only [cle, Option.some.injEq, reduceCtorEq] at e
  subst e
  rw [ilt_eq] at q
  rw [show (!decide (_ < _)) = decide (_ ≤ _) from nlt_le _ _] at q
  exact P.le_int (q s.heap _ (.refl _))
theorem sem_gt : CmpSem W .Gt cgt := fun A s M va vb da db d Q E ok ra rb e q => by
  cases ra <;> cases rb <;> simp only [cgt, Option.some.injEq, reduceCtorEq] at e
  subst e
  rw [ilt_eq] at q
  exact P.gt_int (q s.heap _ (.refl _))
theorem sem_ge : CmpSem W .GtE cge := fun A s M va vb da db d Q E ok ra rb e q => by
  cases ra <;> cases rb <;> simp only [cge, Option.some.injEq, reduceCtorEq] at e
  subst e
  rw [ilt_eq] at q
  rw [show (!decide (_ < _)) = decide (_ ≤ _) from nlt_le _ _] at q
  exact P.ge_int (q s.heap _ (.refl _))
theorem shp_and {a b : D} (h : (shp a && shp b) = true) : SeqAt.shaped a = true ∧ SeqAt.shaped b = true := Bool.and_eq_true_iff.mp h
theorem sem_eq : CmpSem W .Eq ceq := fun A s M va vb da db d Q E ok ra rb e q => by
  have gen : ∀ {c : Bool}, (if shp da && shp db then some (PyData.eqv da db) else Option.none) = some c → wpAny (model W.prog W.w) A (compareOp .Eq va vb) (fun v s' => ∃ h' tk, v = .bool c ∧ Keep s.heap h' ∧ s' = { s with heap := h', toks := tk }) E s := by
    intro c e
    split at e
    · rename_i h
      cases e
      have h := shp_and h
      obtain ⟨_, p1⟩ := ra.reads
      obtain ⟨_, p2⟩ := rb.reads
      exact SeqAt.compareEq_shaped p1 p2 h.1 h.2 ok.units ⟨s.heap, s.toks, rfl, .refl _, rfl⟩
    · cases e
  have fin : ∀ {c : Bool}, (if shp da && shp db then some (PyData.eqv da db) else Option.none) = some c → c = d → wpAny (model W.prog W.w) A (compareOp .Eq va vb) Q E s := fun h hc => wpAny_mono (gen h) (fun v s' x => by
    obtain ⟨h', tk, rfl, k, rfl⟩ := x; exact hc ▸ q h' tk k) fun _ _ x => x
  by_cases hi : ∃ i t j u, va = .int i t ∧ vb = .int j u
  · obtain ⟨i, t, j, u, rfl, rfl⟩ := hi
    cases ra; cases rb
    simp only [ceq, Option.some.injEq] at e
    subst e
    rw [ieq_eq] at q
    exact P.eq_int (q s.heap _ (.refl _))
  · refine fin (c := d) ?_ rfl
    unfold ceq at e
    split at e
    · cases ra; cases rb; exact absurd ⟨_, _, _, _, rfl, rfl⟩ hi
    · exact e
theorem sem_ne : CmpSem W .NotEq cne := fun A s M va vb da db d Q E ok ra rb e q => by
  have gen : ∀ {c : Bool}, (if shp da && shp db then some (!PyData.eqv da db) else Option.none) = some c → wpAny (model W.prog W.w) A (compareOp .NotEq va vb) (fun v s' => ∃ h' tk, v = .bool c ∧ Keep s.heap h' ∧ s' = { s with heap := h', toks := tk }) E s := by
    intro c e
    split at e
    · rename_i h
      cases e
      have h := shp_and h
      obtain ⟨_, p1⟩ := ra.reads
      obtain ⟨_, p2⟩ := rb.reads
      exact SeqAt.compareNe_shaped p1 p2 h.1 h.2 ok.units ⟨s.heap, s.toks, rfl, .refl _, rfl⟩
    · cases e
  have fin : ∀ {c : Bool}, (if shp da && shp db then some (!PyData.eqv da db) else Option.none) = some c → c = d → wpAny (model W.prog W.w) A (compareOp .NotEq va vb) Q E s := fun h hc => wpAny_mono (gen h) (fun v s' x => by
    obtain ⟨h', tk, rfl, k, rfl⟩ := x; exact hc ▸ q h' tk k) fun _ _ x => x
  by_cases hi : ∃ i t j u, va = .int i t ∧ vb = .int j u
  · obtain ⟨i, t, j, u, rfl, rfl⟩ := hi
    cases ra; cases rb
    simp only [cne, Option.some.injEq] at e
    subst e
    rw [ieq_eq] at q
    exact P.ne_int (q s.heap _ (.refl _))
  · refine fin (c := d) ?_ rfl
    unfold cne at e
    split at e
    · cases ra; cases rb; exact absurd ⟨_, _, _, _, rfl, rfl⟩ hi
    · exact e
theorem sem_isN : CmpSem W .Is cisN := fun A s M va vb da db d Q E ok ra rb e q => by
  cases rb with
  | none => cases ra <;> simp only [cisN, Option.some.injEq] at e <;> subst e <;> exact is_none (q s.heap _ (.refl _))
  | _ => cases ra <;> simp only [cisN, reduceCtorEq] at e
theorem sem_nisN : CmpSem W .IsNot cnisN := fun A s M va vb da db d Q E ok ra rb e q => by
  cases rb with
  | none => cases ra <;> simp only [cnisN, Option.some.injEq] at e <;> subst e <;> exact isNot_none (q s.heap _ (.refl _))
  | _ => cases ra <;> simp only [cnisN, reduceCtorEq] at e
theorem sem_in : CmpSem W .In cin := fun A s M va vb da db d Q E ok ra rb e q => by
  unfold cin at e
  split at e
  · split at e
    · rename_i xs h
      cases e
      have h := Bool.and_eq_true_iff.mp h
      have h1 := Bool.and_eq_true_iff.mp h.1
      obtain ⟨_, p1⟩ := ra.reads
      obtain ⟨_, p2⟩ := rb.reads
      refine SeqAt.in_list_reads p2 p1 h1.2 h1.1 ?_ (q s.heap s.toks (.refl _))
      have h3 := ok.un
      have h4 : da.depth ≤ 64 := of_decide_eq_true h.2
      have h5 : min (PyData.depthAll xs) da.depth ≤ da.depth := Nat.min_le_right _ _
      show _ < 9900
      omega
    · cases e
  · cases e
end
end Gos
end

section
open PySem PySem.W PyProof.Rows
namespace Gos
open PySem

noncomputable def bnames : List Str := ["len", "abs", "max", "range", "list", "enumerate", "reversed", "sorted", "any", "isinstance", "str", "min"]

/-- a def of the text: its call is the function F on trees -/
noncomputable def Contract (W : Gl) (x : Str) (r : Nat) (F : List D → Option D) : Prop :=
  ∃ a o fd, W.mg x = some (.ref a) ∧ W.h₀.get? a = some o ∧ o.data = .func fd ∧
    ∀ A s M vs ds d Q E, Ok r A → Keep W.h₀ s.heap → (∀ a, M a → W.h₀.get? a = Option.none) → Dom s.heap M → RelAll s.heap M vs ds → F ds = some d → Post s M d Q → wpAny (model W.prog W.w) A (call (.ref a) vs []) Q E s
noncomputable def ContractF (W : Gl) (x : Str) (r : Nat) (F : List D → Option (List D)) : Prop :=
  ∃ a o fd, W.mg x = some (.ref a) ∧ W.h₀.get? a = some o ∧ o.data = .func fd ∧
    ∀ A s M vs ds d Q E, Ok r A → Keep W.h₀ s.heap → (∀ a, M a → W.h₀.get? a = Option.none) → Dom s.heap M → RelAll s.heap M vs ds → F ds = some d → PostF s M d Q → wpAny (model W.prog W.w) A (call (.ref a) vs []) Q E s

noncomputable def CallSem (W : Gl) (f : Value) (F : List D → Option D) : Prop :=
  ∀ A s M vs ds d Q E, Ok 3 A → Dom s.heap M → RelAll s.heap M vs ds → F ds = some d → Post s M d Q → wpAny (model W.prog W.w) A (call f vs []) Q E s
noncomputable def CallSemF (W : Gl) (f : Value) (F : List D → Option (List D)) : Prop :=
  ∀ A s M vs ds d Q E, Ok 3 A → Dom s.heap M → RelAll s.heap M vs ds → F ds = some d → PostF s M d Q → wpAny (model W.prog W.w) A (call f vs []) Q E s

structure Gl.Fine (W : Gl) : Prop extends Gl.Ok W where
  miss : ∀ x ∈ bnames, W.mg x = Option.none

noncomputable def noStars (es : List Expr) : Bool := es.all fun e => !isStarred e
theorem noStars_any {pos : Pos} {env : Env} : ∀ {es : List Expr}, noStars es = true → (backTo pos (starEach es env)).any (·.1) = false
  | [], _ => rfl
  | e :: r, h => by
    have h' := Bool.and_eq_true_iff.mp (show (!isStarred e && noStars r) = true from h)
    have e1 : isStarred e = false := by simpa using h'.1
    rw [starEach_cons e1]
    show (false || (backTo pos (starEach r env)).any (·.1)) = false
    rw [noStars_any h'.2]; rfl

section
variable {W : Gl} {n : Nat} {Γ : Lay} {G : List Str}

theorem nameGlob (B : W.Ok) {A : Around} {env : Env} {s : Shared} {M : Addr → Prop} {ρ : List S} {oa : Nat → Addr} {Q : Value → Shared → Prop} {E : Value → Shared → Prop} (P : Pre W n Γ G A env s M ρ oa) {x : Str} {p : Pos} {v : Value}
    (hx : x ∈ G) (hv : W.mg x = some v) (q : Q v s) : wpAny (model W.prog W.w) A (eval (.Name x p) env) Q E s :=
  Calls.Name_function_global P.es.kind (P.es.gl x hx) (Calls.loadGlobal_global (by rw [P.es.glob]; exact B.g.keeps P.base) hv q) (P.es.ndG x hx)
theorem nameBlt (B : W.Ok) {A : Around} {env : Env} {s : Shared} {M : Addr → Prop} {ρ : List S} {oa : Nat → Addr} {Q : Value → Shared → Prop} {E : Value → Shared → Prop} (P : Pre W n Γ G A env s M ρ oa) {x : Str} {p : Pos} {v : Value}
    (hx : x ∈ G) (hm : W.mg x = Option.none) (hn : x ≠ "__name__") (hv : bootBuiltins x = some v) (q : Q v s) : wpAny (model W.prog W.w) A (eval (.Name x p) env) Q E s :=
  Calls.Name_function_global P.es.kind (P.es.gl x hx) (Calls.loadGlobal_builtin (by rw [P.es.glob]; exact B.g.keeps P.base) hm (by rw [P.es.blt]; exact B.b.keeps P.base) ((B.bl x hn).trans hv) q) (P.es.ndG x hx)

theorem DenE.call (B : W.Ok) {x : Str} {r : Nat} {F : List D → Option D} {e : Expr} {es : List Expr} {fs : List S → Option (List D)} {p pos} (C : Contract W x r F) (ha : DenA W n Γ G (e :: es) fs)
    (hx : x ∈ G := by decide +kernel) (hr : r + 1 ≤ n := by decide) (hs : isStarred e = false := by rfl) : DenE W n Γ G (.Call (.Name x p) (e :: es) [] pos) (fun ρ => bind1 F (fs ρ)) := fun A env s M ρ oa d Q E P e' q => by
  obtain ⟨ds, e1, e2⟩ := bind1_some e'
  obtain ⟨a, o, fd, c1, c2, c3, c4⟩ := C
  refine wpAny_Call_NameR (nameGlob B P hx c1 ?_)
  refine PyProof.Rows.callWith_def c3 (ha A env s M ρ oa ds _ E pos P e1 fun vs h1 tk1 k1 r1 => ⟨k1 _ _ (P.base _ _ c2), ?_⟩) (starEach_cons hs)
  exact c4 A _ M vs ds d Q E (P.ok.less (by omega)) (P.base.trans k1) P.off (P.env.keep k1).dom r1 e2 (q.up k1)
theorem DenF.call (B : W.Ok) {x : Str} {r : Nat} {F : List D → Option (List D)} {e : Expr} {es : List Expr} {fs : List S → Option (List D)} {p pos} (C : ContractF W x r F) (ha : DenA W n Γ G (e :: es) fs)
    (hx : x ∈ G := by decide +kernel) (hr : r + 1 ≤ n := by decide) (hs : isStarred e = false := by rfl) : DenF W n Γ G (.Call (.Name x p) (e :: es) [] pos) (fun ρ => bind1 F (fs ρ)) := fun A env s M ρ oa d Q E P e' q => by
  obtain ⟨ds, e1, e2⟩ := bind1_some e'
  obtain ⟨a, o, fd, c1, c2, c3, c4⟩ := C
  refine wpAny_Call_NameR (nameGlob B P hx c1 ?_)
  refine PyProof.Rows.callWith_def c3 (ha A env s M ρ oa ds _ E pos P e1 fun vs h1 tk1 k1 r1 => ⟨k1 _ _ (P.base _ _ c2), ?_⟩) (starEach_cons hs)
  exact c4 A _ M vs ds d Q E (P.ok.less (by omega)) (P.base.trans k1) P.off (P.env.keep k1).dom r1 e2 (q.up k1)

theorem callBlt {A : Around} {env : Env} {s : Shared} {pos : Pos} {v : Value} {e : Expr} {es : List Expr} {Q : Value → Shared → Prop} {E : Value → Shared → Prop} (hk : (∃ id, v = .builtin id) ∨ ∃ T, v = .type T) (hs : noStars (e :: es) = true)
    (h : wpAny (model W.prog W.w) A (spliced (backTo pos (starEach (e :: es) env))) (fun vs s₁ => wpAny (model W.prog W.w) A (call v vs []) Q E s₁) E s) :
    wpAny (model W.prog W.w) A (callWith pos v [] (backTo pos (starEach (e :: es) env)) []) Q E s := by
  have h' := Bool.and_eq_true_iff.mp (show (!isStarred e && noStars es) = true from hs)
  have e1 : isStarred e = false := by simpa using h'.1
  rcases hk with ⟨id, rfl⟩ | ⟨T, rfl⟩
  · exact PyProof.Rows.callWith_builtin1 h (starEach_cons e1) (noStars_any h'.2)
  · exact PyProof.Rows.callWith_type1 h (starEach_cons e1) (noStars_any h'.2)
theorem DenE.callB (B : W.Fine) (x : Str) {v : Value} {F : List D → Option D} {e : Expr} {es : List Expr} {fs : List S → Option (List D)} {p pos} (C : CallSem W v F) (hk : (∃ id, v = .builtin id) ∨ ∃ T, v = .type T) (hm : x ∈ bnames) (hn : x ≠ "__name__")
    (hv : bootBuiltins x = some v) (ha : DenA W n Γ G (e :: es) fs) (hx : x ∈ G) (hr : 3 ≤ n) (hs : noStars (e :: es) = true) : DenE W n Γ G (.Call (.Name x p) (e :: es) [] pos) (fun ρ => bind1 F (fs ρ)) := fun A env s M ρ oa d Q E P e' q => by
  obtain ⟨ds, e1, e2⟩ := bind1_some e'
  refine wpAny_Call_NameR (nameBlt B.toOk P hx (B.miss x hm) hn hv ?_)
  refine callBlt hk hs (ha A env s M ρ oa ds _ E pos P e1 fun vs h1 tk1 k1 r1 => ?_)
  exact C A _ M vs ds d Q E (P.ok.less hr) (P.env.keep k1).dom r1 e2 (q.up k1)
theorem DenF.callB (B : W.Fine) (x : Str) {v : Value} {F : List D → Option (List D)} {e : Expr} {es : List Expr} {fs : List S → Option (List D)} {p pos} (C : CallSemF W v F) (hk : (∃ id, v = .builtin id) ∨ ∃ T, v = .type T) (hm : x ∈ bnames) (hn : x ≠ "__name__")
    (hv : bootBuiltins x = some v) (ha : DenA W n Γ G (e :: es) fs) (hx : x ∈ G) (hr : 3 ≤ n) (hs : noStars (e :: es) = true) : DenF W n Γ G (.Call (.Name x p) (e :: es) [] pos) (fun ρ => bind1 F (fs ρ)) := fun A env s M ρ oa d Q E P e' q => by
  obtain ⟨ds, e1, e2⟩ := bind1_some e'
  refine wpAny_Call_NameR (nameBlt B.toOk P hx (B.miss x hm) hn hv ?_)
  refine callBlt hk hs (ha A env s M ρ oa ds _ E pos P e1 fun vs h1 tk1 k1 r1 => ?_)
  exact C A _ M vs ds d Q E (P.ok.less hr) (P.env.keep k1).dom r1 e2 (q.up k1)

/- the built-ins on trees -/
noncomputable def flen : List D → Option D
  | [.list xs] => if small xs then some (.int xs.length) else Option.none
  | _ => Option.none
noncomputable def fabs : List D → Option D
  | [.int a] => some (.int a.natAbs)
  | _ => Option.none
noncomputable def fmax2 : List D → Option D
  | [.int a, .int b] => some (.int (if b > a then b else a))
  | _ => Option.none
noncomputable def fmin2 : List D → Option D
  | [.int a, .int b] => some (.int (if b < a then b else a))
  | _ => Option.none
noncomputable def intsOf : List D → Option (List Int)
  | [] => some []
  | .int i :: r => bind1 (fun ns => some (i :: ns)) (intsOf r)
  | _ => Option.none
theorem intsOf_are {h : Heap} {M : Addr → Prop} : ∀ {vs : List Value} {ds : List D} {ns : List Int}, RelAll h M vs ds → intsOf ds = some ns → IntsAre vs ns
  | _, _, _, .nil, e => by cases e; exact .nil
  | _, _, _, .cons x r, e => by
    cases x with
    | int i t =>
      obtain ⟨ns, e1, e2⟩ := bind1_some e
      cases e2
      exact .cons i t (intsOf_are r e1)
    | _ => cases e
theorem IntsAre.rel {h : Heap} {M : Addr → Prop} : ∀ {vs : List Value} {ns : List Int}, IntsAre vs ns → RelAll h M vs (ns.map .int)
  | _, _, .nil => .nil
  | _, _, .cons n t r => .cons (.int n t) (IntsAre.rel r)
noncomputable def maxI : Int → List Int → Int
  | m, [] => m
  | m, x :: r => maxI (if x > m then x else m) r
theorem maxI_mem : ∀ (l : List Int) (m : Int), maxI m l = m ∨ maxI m l ∈ l
  | [], _ => .inl rfl
  | x :: r, m => by
    unfold maxI
    rcases maxI_mem r (if x > m then x else m) with h | h
    · rw [h]; split
      · exact .inr (.head _)
      · exact .inl rfl
    · exact .inr (.tail _ h)
theorem maxI_ge : ∀ (l : List Int) (m : Int), m ≤ maxI m l ∧ ∀ a ∈ l, a ≤ maxI m l
  | [], _ => ⟨Int.le_refl _, fun _ h => nomatch h⟩
  | x :: r, m => by
    unfold maxI
    obtain ⟨h1, h2⟩ := maxI_ge r (if x > m then x else m)
    have h3 : m ≤ (if x > m then x else m) ∧ x ≤ (if x > m then x else m) := by split <;> omega
    refine ⟨Int.le_trans h3.1 h1, fun a ha => ?_⟩
    rcases List.mem_cons.mp ha with rfl | ha
    · exact Int.le_trans h3.2 h1
    · exact h2 a ha
noncomputable def fmaxl : List D → Option D
  | [.list xs] => bind1 (fun ns => match ns with | [] => Option.none | x :: r => some (.int (maxI x r))) (intsOf xs)
  | _ => Option.none
noncomputable def insI (x : Int) : List Int → List Int
  | [] => [x]
  | y :: r => if x ≤ y then x :: y :: r else y :: insI x r
noncomputable def sortI : List Int → List Int
  | [] => []
  | x :: r => insI x (sortI r)
theorem insI_perm (x : Int) : ∀ l, (insI x l).Perm (x :: l)
  | [] => .refl _
  | y :: r => by
    unfold insI; split
    · exact .refl _
    · exact ((insI_perm x r).cons y).trans (.swap x y r)
theorem sortI_perm : ∀ l, (sortI l).Perm l
  | [] => .refl _
  | x :: r => (insI_perm x _).trans ((sortI_perm r).cons x)
theorem insI_sorted (x : Int) : ∀ l : List Int, l.Pairwise (· ≤ ·) → (insI x l).Pairwise (· ≤ ·)
  | [], _ => by simp [insI]
  | y :: r, h => by
    obtain ⟨h1, h2⟩ := List.pairwise_cons.mp h
    unfold insI; split
    · rename_i hxy
      refine List.pairwise_cons.mpr ⟨fun a ha => ?_, h⟩
      rcases List.mem_cons.mp ha with rfl | ha
      · exact hxy
      · exact Int.le_trans hxy (h1 a ha)
    · rename_i hxy
      refine List.pairwise_cons.mpr ⟨fun a ha => ?_, insI_sorted x r h2⟩
      rcases List.mem_cons.mp ((insI_perm x r).mem_iff.mp ha) with rfl | ha
      · omega
      · exact h1 a ha
theorem sortI_sorted : ∀ l, (sortI l).Pairwise (· ≤ ·)
  | [] => .nil
  | x :: r => insI_sorted x _ (sortI_sorted r)
noncomputable def fsorted : List D → Option (List D)
  | [.list xs] => if Nat.blt xs.length 64 then bind1 (fun ns => some ((sortI ns).map .int)) (intsOf xs) else Option.none
  | _ => Option.none
noncomputable def flist : List D → Option (List D)
  | [.list xs] => if small xs then some xs else Option.none
  | [.tuple xs] => if small xs then some xs else Option.none
  | _ => Option.none
noncomputable def boolsOf : List D → Option (List Bool)
  | [] => some []
  | .bool i :: r => bind1 (fun ns => some (i :: ns)) (boolsOf r)
  | _ => Option.none
noncomputable def fany : List D → Option D
  | [.list xs] => bind1 (fun bs => some (.bool (bs.any id))) (boolsOf xs)
  | _ => Option.none

theorem RelAll.one {h : Heap} {M : Addr → Prop} {vs : List Value} {d : D} (r : RelAll h M vs [d]) : ∃ v, vs = [v] ∧ Rel h M v d := by
  cases r with
  | cons x r => cases r; exact ⟨_, rfl, x⟩
theorem RelAll.two {h : Heap} {M : Addr → Prop} {vs : List Value} {d e : D} (r : RelAll h M vs [d, e]) : ∃ v w, vs = [v, w] ∧ Rel h M v d ∧ Rel h M w e := by
  cases r with
  | cons x r => obtain ⟨w, rfl, q⟩ := r.one; exact ⟨_, w, rfl, x, q⟩
theorem RelAll.three {h : Heap} {M : Addr → Prop} {vs : List Value} {d e f : D} (r : RelAll h M vs [d, e, f]) : ∃ v w u, vs = [v, w, u] ∧ Rel h M v d ∧ Rel h M w e ∧ Rel h M u f := by
  cases r with
  | cons x r => obtain ⟨w, u, rfl, q, q'⟩ := r.two; exact ⟨_, w, u, rfl, x, q, q'⟩
theorem isList_of {h : Heap} {a : Addr} {vs : List Value} {k : Nat} (g : h.get? a = some (lstO vs k)) : h.IsList a vs.toArray := ⟨_, g, rfl, k, rfl⟩

theorem sem_len : CallSem W (.builtin "len") flen := fun A s M vs ds d Q E ok dom r e q => by
  unfold flen at e
  split at e
  · rename_i xs
    split at e
    · rename_i hs
      cases e
      obtain ⟨v, rfl, x⟩ := r.one
      cases x with
      | lst m g rr =>
        have hl := rr.length
        have h1 := small_le hs
        rw [sizeLine_eq] at h1
        refine Calls.call_len_list (isList_of g) (by simp only [List.size_toArray]; omega) ?_
        have := q (.int (xs.length : Int) (s.toks + 1)) s.heap (s.toks + 1 + 1) (.refl _) (.int _ _)
        simpa only [List.size_toArray, hl] using this
    · cases e
  · cases e
theorem sem_abs : CallSem W (.builtin "abs") fabs := fun A s M vs ds d Q E ok dom r e q => by
  unfold fabs at e
  split at e
  · rename_i a
    cases e
    obtain ⟨v, rfl, x⟩ := r.one
    cases x with
    | int _ t =>
      refine PyProof.Rows.call_abs_int fun u tk => ?_
      have h : (if a < 0 then -a else a) = (a.natAbs : Int) := by split <;> omega
      rw [h]
      exact q _ s.heap tk (.refl _) (.int _ _)
  · cases e
theorem sem_max2 : CallSem W (.builtin "max") fmax2 := fun A s M vs ds d Q E ok dom r e q => by
  unfold fmax2 at e
  split at e
  · cases e
    obtain ⟨v, w, rfl, x, y⟩ := r.two
    cases x with
    | int a t =>
      cases y with
      | int b u =>
        refine max_two_ints ok.hd fun h' tk k => ?_
        split
        · rename_i hb; exact q _ h' tk k (by rw [if_pos hb]; exact .int _ _)
        · rename_i hb; exact q _ h' tk k (by rw [if_neg hb]; exact .int _ _)
  · cases e
theorem sem_min2 : CallSem W (.builtin "min") fmin2 := fun A s M vs ds d Q E ok dom r e q => by
  unfold fmin2 at e
  split at e
  · cases e
    obtain ⟨v, w, rfl, x, y⟩ := r.two
    cases x with
    | int a t =>
      cases y with
      | int b u =>
        refine min_two_ints ok.hd fun h' tk k => ?_
        split
        · rename_i hb; exact q _ h' tk k (by rw [if_pos hb]; exact .int _ _)
        · rename_i hb; exact q _ h' tk k (by rw [if_neg hb]; exact .int _ _)
  · cases e
theorem sem_maxl : CallSem W (.builtin "max") fmaxl := fun A s M vs ds d Q E ok dom r e q => by
  unfold fmaxl at e
  split at e
  · obtain ⟨ns, e1, e2⟩ := bind1_some e
    obtain ⟨v, rfl, x⟩ := r.one
    cases x with
    | lst m g rr =>
      rename_i ws k
      have hi := intsOf_are rr e1
      obtain ⟨xs, ex⟩ := hi.allInts.items
      have hns : ns = xs.toList.map (·.1) := by rw [← hi.numsOf, ← nums_intItems, ← ex]
      have hl : s.heap.IsList _ (intItems xs) := ex ▸ isList_of g
      cases ns with
      | nil => cases e2
      | cons n0 nr =>
        cases e2
        have hsz : 0 < xs.size := by
          have := congrArg List.length hns
          simp only [List.length_cons, List.length_map, Array.length_toList] at this
          omega
        refine max_intList ok.hd hl hsz fun v h' tk hv hk => ?_
        obtain ⟨t, rfl⟩ := intItems_at hv
        obtain ⟨h1, h2⟩ := argBest_gt (numAt xs) (xs.size - 1)
        have hm : numAt xs (argBest (fun i j => decide (numAt xs i > numAt xs j)) (xs.size - 1)) = maxI n0 nr := by
          have a1 : numAt xs (argBest (fun i j => decide (numAt xs i > numAt xs j)) (xs.size - 1)) ∈ n0 :: nr := by
            rw [hns, numAt_eq]; exact getD_mem (by rw [List.length_map, Array.length_toList]; omega)
          have a2 : ∀ a ∈ n0 :: nr, a ≤ numAt xs (argBest (fun i j => decide (numAt xs i > numAt xs j)) (xs.size - 1)) := fun a ha => by
            rw [hns] at ha
            obtain ⟨j, hj, rfl⟩ := mem_getD ha
            rw [List.length_map, Array.length_toList] at hj
            rw [← numAt_eq]; exact h2 j (by omega)
          obtain ⟨b1, b2⟩ := maxI_ge nr n0
          have b3 : maxI n0 nr ∈ n0 :: nr := (maxI_mem nr n0).elim (fun e => by rw [e]; exact .head _) fun e => .tail _ e
          have c1 := a2 _ b3
          have c2 : numAt xs (argBest (fun i j => decide (numAt xs i > numAt xs j)) (xs.size - 1)) ≤ maxI n0 nr := by
            rcases List.mem_cons.mp a1 with h | h
            · rw [h]; exact b1
            · exact b2 _ h
          exact Int.le_antisymm c2 c1
        rw [hm]
        exact q _ h' tk hk (.int _ _)
  · cases e
theorem sem_sorted : CallSemF W (.builtin "sorted") fsorted := fun A s M vs ds d Q E ok dom r e q => by
  unfold fsorted at e
  split at e
  · split at e
    · rename_i h64
      obtain ⟨ns, e1, e2⟩ := bind1_some e
      cases e2
      obtain ⟨v, rfl, x⟩ := r.one
      cases x with
      | lst m g rr =>
        rename_i xs ws k
        have hlen := rr.length
        have h64' : ws.length < 64 := by rw [hlen]; exact Nat.le_of_ble_eq_true h64
        refine sorted_ints (isList_of g) (intsOf_are rr e1) h64' fun out ns' a1 a2 a3 => ?_
        have hp : ns' = sortI ns := List.Perm.eq_of_pairwise (fun a b _ _ h1 h2 => Int.le_antisymm h1 h2) a3 (sortI_sorted ns) (a2.trans (sortI_perm ns).symm)
        subst hp
        obtain ⟨ee, he⟩ := sortedAll_at s.heap ws out
        refine q _ out.toList ee _ s.toks (fun _ _ => sortedAll_old) ?_ (by simpa using he) (IntsAre.rel a1)
        cases q : s.heap.get? (s.heap.objs.size + 1) with
        | none => rfl
        | some o => exact absurd (Heap.lt_size q) (Nat.not_lt.mpr (Nat.le_succ _))
    · cases e
  · cases e
theorem sem_list : CallSemF W (.type "list") flist := fun A s M vs ds d Q E ok dom r e q => by
  have key : ∀ {a : Addr} {ws : List Value} {o : Obj} {k : Nat} {xs : List D} {T : String}, (T = "list" ∨ T = "tuple") → s.heap.get? a = some o → o.cls = .type T → o.data = .seq ws.toArray k → RelAll s.heap M ws xs → small xs = true → PostF s M xs Q →
      wpAny (model W.prog W.w) A (call (.type "list") [.ref a] []) Q E s := fun {a ws o k xs T} hT g hc hd rr hs q => by
    have hlen := rr.length
    refine call_list_seq a hT g hc hd (fun h' c' hk hD => ?_) (by rw [List.size_toArray, hlen]; exact small_le hs)
    have hz := get_size s.heap
    refine q _ ws c' h' s.toks hk hz hD ((rr.more fun b hb => ?_).keep hk)
    rcases hb with rfl | hb
    · exact .inr hz
    · exact .inl hb
  unfold flist at e
  split at e
  · split at e
    · rename_i xs hs
      cases e
      obtain ⟨v, rfl, x⟩ := r.one
      cases x with
      | lst m g rr => exact key (.inl rfl) g rfl rfl rr hs q
    · cases e
  · split at e
    · rename_i xs hs
      cases e
      obtain ⟨v, rfl, x⟩ := r.one
      cases x with
      | tup m g rr => exact key (.inr rfl) g rfl rfl rr hs q
    · cases e
  · cases e
theorem boolsOf_get {h : Heap} {M : Addr → Prop} : ∀ {vs : List Value} {ds : List D} {ns : List Bool}, RelAll h M vs ds → boolsOf ds = some ns → vs = ns.map .bool
  | _, _, _, .nil, e => by cases e; rfl
  | _, _, _, .cons x r, e => by
    cases x with
    | bool i =>
      obtain ⟨ns, e1, e2⟩ := bind1_some e
      cases e2
      rw [boolsOf_get r e1]; rfl
    | _ => cases e
theorem any_getD : ∀ (bs : List Bool), (List.range bs.length).any (fun i => bs.getD i false) = bs.any id
  | [] => rfl
  | b :: r => by
    rw [List.length_cons, List.range_succ_eq_map, List.any_cons, List.any_map, List.any_cons]
    exact congrArg (b || ·) (any_getD r)
theorem sem_any : CallSem W (.builtin "any") fany := fun A s M vs ds d Q E ok dom r e q => by
  unfold fany at e
  split at e
  · obtain ⟨bs, e1, e2⟩ := bind1_some e
    cases e2
    obtain ⟨v, rfl, x⟩ := r.one
    cases x with
    | lst m g rr =>
      rename_i xs a ws k
      have hb := boolsOf_get rr e1
      subst hb
      have hl := isList_of g
      have hlt : a < s.heap.objs.size := Heap.lt_size g
      refine call_any_walk (wpAny_pyIter_list hl ⟨s.heap.objs.size, _, _, _, _, _, fun i => bs.getD i false, rfl, Walks.list (A := A.in1) ok.hd s.heap.objs.size a (Nat.ne_of_lt hlt) (bs.map Value.bool).toArray,
        ⟨⟨_, Heap.get?_push_size _ rfl, rfl, rfl⟩, hl.push _⟩, ?_, fun h' tk hk => ?_⟩)
      · intro i v s Q E hv hq
        simp only [List.getElem?_toArray, List.getElem?_map, Option.map_eq_some_iff] at hv
        obtain ⟨b, hb, rfl⟩ := hv
        have : bs.getD i false = b := by rw [List.getD_eq_getElem?_getD, hb]; rfl
        exact wpAny_truthy_bool (this ▸ hq)
      · have hs : (List.map Value.bool bs).toArray.size = bs.length := by simp
        rw [hs, any_getD]
        refine q _ h' tk (fun b o e => hk b o ?_ (Heap.get?_push_of_some _ e)) (.bool _)
        intro hm
        rcases List.mem_cons.mp hm with e1 | hm
        · exact absurd (e1 ▸ Heap.lt_size e) (Nat.lt_irrefl _)
        · cases hm
  · cases e
end

/- shapes for use -/
section
variable {W : Gl} {n : Nat} {Γ : Lay} {G : List Str} {e : Expr} {es : List Expr} {fs : List S → Option (List D)} {p pos : Pos}
/-- a constant of the top -/
noncomputable def GlobC (W : Gl) (x : Str) (d : D) : Prop := ∃ v, W.mg x = some v ∧ Rel W.h₀ (fun _ => False) v d
theorem DenE.glob (B : W.Ok) {x : Str} {d : D} (C : GlobC W x d) (hx : x ∈ G := by decide +kernel) : DenE W n Γ G (.Name x p) (fun _ => some d) := fun A env s M ρ oa d' Q E P e q => by
  cases e
  obtain ⟨v, hv, r⟩ := C
  exact nameGlob B P hx hv (q v s.heap s.toks (.refl _) (r.to fun b o _ g _ => ⟨fun m => (by rw [P.off b m] at g; cases g), P.base b o g⟩))
noncomputable def fisS : D → Option D
  | .tuple _ => some (.bool false)
  | _ => Option.none
theorem DenT.isStr (B : W.Fine) {f : List S → Option D} {p' : Pos} (ha : DenE W n Γ G e f) (hx : ("isinstance" : Str) ∈ G := by decide +kernel) (hy : ("str" : Str) ∈ G := by decide +kernel) (hs : isStarred e = false := by rfl) :
    DenT W n Γ G (.Call (.Name "isinstance" p) [e, .Name "str" p'] [] pos) (fun ρ => btrue (bind1 fisS (f ρ))) := DenT.val (fun A env s M ρ oa d Q E P e' q => by
  obtain ⟨da, e1, e2⟩ := bind1_some e'
  refine wpAny_Call_NameR (nameBlt B.toOk P hx (B.miss _ (by decide +kernel)) (by decide +kernel) boot_isinstance ?_)
  refine callBlt (.inl ⟨_, rfl⟩) (by show (!isStarred e && true) = true; rw [hs]; rfl) (PyProof.Rows.args_cons (ha A env s M ρ oa da _ E P e1 fun v h1 tk1 k1 r1 => PyProof.Rows.args_cons (nameBlt B.toOk (P.up k1) hy (B.miss _ (by decide +kernel)) (by decide +kernel) PyProof.Rows.boot_str (PyProof.Rows.args_nil ?_))) (starEach_cons hs))
  unfold fisS at e2
  split at e2
  · cases e2
    cases r1 with
    | tup m g rr => exact call_isinstance (isinstance_false_tuple (by decide +kernel) F.isi_meta_str F.sub_tuple_str) ⟨⟨_, g, rfl⟩, q _ h1 _ k1 (.bool _)⟩
  · cases e2)
theorem DenE.len (B : W.Fine) (ha : DenA W n Γ G (e :: es) fs) (hx : ("len" : Str) ∈ G := by decide +kernel) (hr : 3 ≤ n := by decide) (hs : noStars (e :: es) = true := by rfl) :
    DenE W n Γ G (.Call (.Name "len" p) (e :: es) [] pos) (fun ρ => bind1 flen (fs ρ)) := DenE.callB B "len" sem_len (.inl ⟨_, rfl⟩) (by decide +kernel) (by decide +kernel) boot_len ha hx hr hs
end
end Gos
end

section
open PySem PySem.W PyProof.Rows
namespace Gos
open PySem

noncomputable def isSlice : Expr → Bool
  | .Slice .. => true
  | _ => false
theorem subscripted_plain {e : Expr} {o i : Value} (h : isSlice e = false) : subscripted e false o i = operate [o, i] (getItem o i) := by
  cases e <;> first | rfl | cases h

noncomputable def nthL {α : Type} (xs : List α) : Nat → Option α := List.rec (motive := fun _ => Nat → Option α) (fun _ => Option.none) (fun a _ ih n => Nat.rec (motive := fun _ => Option α) (some a) (fun m _ => ih m) n) xs
theorem nthL_eq {α : Type} : ∀ {xs : List α} {k : Nat}, nthL xs k = xs[k]?
  | [], _ => rfl
  | _ :: _, 0 => rfl
  | _ :: r, k + 1 => nthL_eq (xs := r) (k := k)
noncomputable def nthI {α : Type} (xs : List α) (i : Int) : Option α :=
  Int.rec (motive := fun _ => Option α) (fun k => Bool.rec (motive := fun _ => Option α) Option.none (nthL xs k) (Nat.blt k 1000000))
    (fun k => Bool.rec (motive := fun _ => Option α) Option.none (nthL xs (lenL xs - (k + 1))) (Nat.ble (k + 1) (lenL xs) && Nat.blt k 1000000)) i
theorem nthI_o {α : Type} {xs : List α} {k : Nat} : nthI xs (.ofNat k) = if Nat.blt k 1000000 then xs[k]? else Option.none := by
  show @Bool.rec (fun _ => Option α) Option.none (nthL xs k) (Nat.blt k 1000000) = _
  rw [nthL_eq]
  cases Nat.blt k 1000000 <;> rfl
theorem nthI_n {α : Type} {xs : List α} {k : Nat} : nthI xs (.negSucc k) = if Nat.ble (k + 1) xs.length && Nat.blt k 1000000 then xs[xs.length - (k + 1)]? else Option.none := by
  show @Bool.rec (fun _ => Option α) Option.none (nthL xs (lenL xs - (k + 1))) (Nat.ble (k + 1) (lenL xs) && Nat.blt k 1000000) = _
  rw [nthL_eq, lenL_eq]
  cases (Nat.ble (k + 1) xs.length && Nat.blt k 1000000) <;> rfl
noncomputable def didx : D → D → Option D
  | .list xs, .int i => nthI xs i
  | .tuple xs, .int i => nthI xs i
  | _, _ => Option.none

section
variable {W : Gl} {n : Nat} {Γ : Lay} {G : List Str}

theorem list_item {A : Around} {s : Shared} {M : Addr → Prop} {a : Addr} {vs : List Value} {k : Nat} {xs : List D} {i : Int} {t : Tok} {d : D} {Q : Value → Shared → Prop} {E : Value → Shared → Prop} (g : s.heap.get? a = some (lstO vs k))
    (r : RelAll s.heap M vs xs) (e : nthI xs i = some d) (q : Post s M d Q) : wpAny (model W.prog W.w) A (getItem (.ref a) (.int i t)) Q E s := by
  cases i with
  | ofNat j =>
    rw [nthI_o] at e
    split at e
    · rename_i hj
      have hj' : j < 1000000 := Nat.le_of_ble_eq_true hj
      obtain ⟨v, hv, x⟩ := r.get e
      exact wpAny_getItem_list (isList_of g) (Int.natCast_nonneg j) (by show (j : Int) < _; omega) (by simpa using hv) (q v s.heap s.toks (.refl _) x)
    · cases e
  | negSucc j =>
    rw [nthI_n] at e
    split at e
    · rename_i hj
      have hj := Bool.and_eq_true_iff.mp hj
      have hj' : j < 1000000 := Nat.le_of_ble_eq_true hj.2
      have hl := r.length
      have hj2 : j + 1 ≤ xs.length := Nat.le_of_ble_eq_true hj.1
      obtain ⟨v, hv, x⟩ := r.get e
      have e1 : (Int.negSucc j + (vs.length : Int)).toNat = xs.length - (j + 1) := by omega
      exact wpAny_getItem_list_neg (isList_of g) (Int.negSucc_lt_zero j) (by simp only [List.size_toArray]; omega) (by omega) (by simp only [List.size_toArray, e1]; simpa using hv) (q v s.heap s.toks (.refl _) x)
    · cases e
theorem tup_item {A : Around} {s : Shared} {M : Addr → Prop} {a : Addr} {vs : List Value} {k : Nat} {xs : List D} {i : Int} {t : Tok} {d : D} {Q : Value → Shared → Prop} {E : Value → Shared → Prop} (g : s.heap.get? a = some (tupO vs k))
    (r : RelAll s.heap M vs xs) (e : nthI xs i = some d) (q : Post s M d Q) : wpAny (model W.prog W.w) A (getItem (.ref a) (.int i t)) Q E s := by
  have hl := r.length
  cases i with
  | ofNat j =>
    rw [nthI_o] at e
    split at e
    · rename_i hj
      have hj' : j < 1000000 := Nat.le_of_ble_eq_true hj
      obtain ⟨v, hv, x⟩ := r.get e
      have hj3 : j < vs.length := (List.getElem?_eq_some_iff.mp hv).1
      exact P.getItem_tuple g (by show _ ≤ (j : Int); omega) (by show (j : Int) < _; omega) (seqIndex_of (Int.natCast_nonneg j) (by simp only [List.size_toArray]; show (j : Int) < _; omega)) (by simpa using hv) (q v s.heap s.toks (.refl _) x)
    · cases e
  | negSucc j =>
    rw [nthI_n] at e
    split at e
    · rename_i hj
      have hj := Bool.and_eq_true_iff.mp hj
      have hj' : j < 1000000 := Nat.le_of_ble_eq_true hj.2
      have hj2 : j + 1 ≤ xs.length := Nat.le_of_ble_eq_true hj.1
      obtain ⟨v, hv, x⟩ := r.get e
      have e1 : (Int.negSucc j + (vs.length : Int)).toNat = xs.length - (j + 1) := by omega
      exact P.getItem_tuple g (by omega) (by omega) (seqIndex_neg (Int.negSucc_lt_zero j) (by simp only [List.size_toArray]; omega)) (by simp only [List.size_toArray, e1]; simpa using hv) (q v s.heap s.toks (.refl _) x)
    · cases e

theorem tuple_getitem_lookup : typeLookup (.type "tuple") "__getitem__" = pure (some (.builtin "tuple.__getitem__")) := F.slot_tuple_getitem.lookup

theorem DenE.idx {a b : Expr} {f g : List S → Option D} {pos} (ha : DenE W n Γ G a f) (hb : DenE W n Γ G b g) (hs : isSlice b = false := by rfl) : DenE W n Γ G (.Subscript a b pos) (fun ρ => bind2 didx (f ρ) (g ρ)) := fun A env s M ρ oa d Q E P e' q => by
  obtain ⟨da, db, e1, e2, e3⟩ := bind2_some e'
  refine Subscript_ (ha A env s M ρ oa da _ E P e1 fun v h1 tk1 k1 r1 => hb A env _ M ρ oa db _ E (P.up k1) e2 fun u h2 tk2 k2 r2 => ?_)
  have q' := (q.up (tk := tk1) k1).up (tk := tk2) k2
  unfold didx at e3
  split at e3
  · cases r1 with
    | lst m g rr =>
      cases r2 with
      | int i t => exact tail_any ⟨_, k2 _ _ g, rfl⟩ list_getitem_lookup (list_item (k2 _ _ g) (rr.keep k2) e3 q') (subscripted_plain hs)
  · cases r1 with
    | tup m g rr =>
      cases r2 with
      | int i t => exact tail_any ⟨_, k2 _ _ g, rfl⟩ tuple_getitem_lookup (tup_item (k2 _ _ g) (rr.keep k2) e3 q') (subscripted_plain hs)
  · cases e3

noncomputable def eown (i : Nat) (ρ : List S) : Option (List D) := match sget ρ i with
  | .own (.lst ds) => some ds
  | _ => Option.none
theorem eown_some {i : Nat} {ρ : List S} {d : List D} (h : eown i ρ = some d) : sget ρ i = .own (.lst d) := by
  unfold eown at h
  split at h
  · rename_i e; rw [e]; cases h; rfl
  · cases h
/-- reading the name of an own list -/
theorem ownName {A : Around} {env : Env} {s : Shared} {M : Addr → Prop} {ρ : List S} {oa : Nat → Addr} {Q : Value → Shared → Prop} {E : Value → Shared → Prop} (P : Pre W n Γ G A env s M ρ oa) (i : Nat) {x : Str} {k : VK} {p : Pos} {ds : List D}
    (hx : Γ[i]? = some (x, k)) (hk : k ≠ .no) (e : eown i ρ = some ds)
    (q : ∀ vs c, M (oa i) → s.heap.get? (oa i) = some (lstO vs c) → RelAll s.heap M vs ds → Q (.ref (oa i)) s) : wpAny (model W.prog W.w) A (eval (.Name x p) env) Q E s := by
  have e' := eown_some e
  refine wpAny_Name (loadSlot P i hx hk (fun v h => ?_) fun ov h => ?_) (P.es.nd i x k hx)
  · rw [e'] at h
    obtain ⟨hu, m, vs, c, g, r⟩ := h
    cases hu
    exact q vs c m g r
  · rw [e'] at h
    exact ⟨_, h.1⟩
noncomputable def didxO : List D → D → Option D
  | xs, .int i => nthI xs i
  | _, _ => Option.none
theorem DenE.oidx (i : Nat) {x : Str} {k : VK} {p : Pos} {b : Expr} {g : List S → Option D} {pos} (hb : DenE W n Γ G b g) (hx : Γ[i]? = some (x, k) := by rfl) (hk : k ≠ .no := by decide) (hs : isSlice b = false := by rfl) :
    DenE W n Γ G (.Subscript (.Name x p) b pos) (fun ρ => bind2 didxO (eown i ρ) (g ρ)) := fun A env s M ρ oa d Q E P e' q => by
  obtain ⟨da, db, e1, e2, e3⟩ := bind2_some e'
  refine Subscript_ (ownName P i hx hk e1 fun vs c m gg rr => hb A env _ M ρ oa db _ E P e2 fun u h2 tk2 k2 r2 => ?_)
  unfold didxO at e3
  split at e3
  · cases r2 with
    | int j t => exact tail_any ⟨_, k2 _ _ gg, rfl⟩ list_getitem_lookup (list_item (k2 _ _ gg) (rr.keep k2) e3 (q.up k2)) (subscripted_plain hs)
  · cases e3
noncomputable def dlenO (xs : List D) : Option D := if small xs then some (.int xs.length) else Option.none
theorem DenE.olen (B : W.Fine) (i : Nat) {x : Str} {k : VK} {p p' pos : Pos} (hx : Γ[i]? = some (x, k) := by rfl) (hk : k ≠ .no := by decide) (hG : ("len" : Str) ∈ G := by decide +kernel) :
    DenE W n Γ G (.Call (.Name "len" p) [.Name x p'] [] pos) (fun ρ => bind1 dlenO (eown i ρ)) := fun A env s M ρ oa d Q E P e' q => by
  obtain ⟨da, e1, e3⟩ := bind1_some e'
  unfold dlenO at e3
  split at e3
  · rename_i hsm
    cases e3
    refine wpAny_Call_NameR (nameBlt B.toOk P hG (B.miss _ (by decide +kernel)) (by decide +kernel) boot_len ?_)
    refine callBlt (.inl ⟨_, rfl⟩) rfl (PyProof.Rows.args_cons (ownName P i hx hk e1 fun vs c m gg rr => PyProof.Rows.args_nil ?_))
    have hl := rr.length
    have h1 := small_le hsm
    rw [sizeLine_eq] at h1
    refine Calls.call_len_list (isList_of gg) (by simp only [List.size_toArray]; omega) ?_
    have := q (.int (da.length : Int) (s.toks + 1)) s.heap (s.toks + 1 + 1) (.refl _) (.int _ _)
    simpa only [List.size_toArray, hl] using this
  · cases e3
/-- an own list compared (== [], != []) -/
theorem DenT.ocmp {op : CmpOp} {F : D → D → Option Bool} (i : Nat) {x : Str} {k : VK} {p pos : Pos} {r : Expr} {g : List S → Option D} (hop : CmpSem W op F) (hb : DenE W n Γ G r g) (hx : Γ[i]? = some (x, k) := by rfl) (hk : k ≠ .no := by decide)
    (hm : behindInMarks op r = false := by with_unfolding_all rfl) (hn : 1 ≤ n := by decide) :
    DenT W n Γ G (.Compare (.Name x p) [op] [r] pos) (fun ρ => bind2 F (elst (eown i ρ)) (g ρ)) := fun A env s M ρ oa d Q E P e q => by
  obtain ⟨a, b, e1, e2, e3⟩ := bind2_some e
  cases ho : eown i ρ with
  | none => rw [ho] at e1; cases e1
  | some ds =>
    rw [ho] at e1; cases e1
    refine wpAny_isTrue_Compare1 (ownName P i hx hk ho fun vs c m gg rr => hb A env _ M ρ oa b _ E P e2 fun u h2 tk2 k2 r2 => ?_) hm
    exact hop A _ (fun _ => False) _ u (.list ds) b d _ E (P.ok.less hn) (.lst (fun x => x) (k2 _ _ gg) ((rr.keep k2).less fun _ x => x.elim)) (r2.less fun _ x => x.elim) e3 fun h3 tk3 k3 => wpAny_truthy_bool (q h3 tk3 (k2.trans k3))

/- slices -/
noncomputable def clipI (len : Nat) : D → Option Nat
  | .int i => some (clipAt len i)
  | _ => Option.none
noncomputable def dsub2 (lo hi : Option D) : D → Option (List D)
  | .list xs => if small xs then
      bind2 (fun a b => some ((xs.drop a).take (b - a))) (match lo with | Option.none => some 0 | some d => clipI xs.length d) (match hi with | Option.none => some xs.length | some d => clipI xs.length d)
    else Option.none
  | _ => Option.none
theorem part_of {h : Heap} {M : Addr → Prop} {v : Value} {d : D} {len c : Nat} (r : Rel h M v d) (e : clipI len d = some c) : ∃ i, IsPart v (some i) ∧ c = clipAt len i := by
  cases r with
  | int i t => cases e; exact ⟨i, .int i t, rfl⟩
  | _ => cases e

theorem slice_core {A : Around} {s : Shared} {M : Addr → Prop} {value : Expr} {l : Option Expr} {u : Option Expr} {p : Pos} {v vl vu : Value} {xs ds : List D} {plo phi : Option Int} {Q : Value → Shared → Prop} {E : Value → Shared → Prop} 
    (r : Rel s.heap M v (.list xs)) (hl : IsPart vl plo) (hu : IsPart vu phi) (hsm : small xs = true) (hd : ds = (xs.drop (plo.elim 0 (clipAt xs.length))).take (phi.elim xs.length (clipAt xs.length) - plo.elim 0 (clipAt xs.length))) (q : PostF s M ds Q) :
    wpAny (model W.prog W.w) A (subscriptTail value (.Slice l u none p) v (.ref s.heap.objs.size)) Q E { s with heap := s.heap.push { cls := .type "slice", data := .fields #[vl, vu, .none] } } := by
  cases r with
  | lst m g rr =>
    rename_i a vs k
    have hlen := rr.length
    have g' : (s.heap.push { cls := .type "slice", data := .fields #[vl, vu, .none] }).get? a = some (lstO vs k) := Heap.get?_push_of_some _ g
    refine tail_any (ops := [.ref s.heap.objs.size, .ref a]) ⟨_, g', rfl⟩ list_getitem_lookup ?_ rfl
    refine wpAny_getItem_list_slice (isList_of g') (Heap.IsSliceOf.new ..) hl hu .none (by simp) ?_ (by rw [List.size_toArray, hlen]; exact small_le hsm)
    have hz : s.heap.get? (s.heap.objs.size + 1) = none := by
      cases q : s.heap.get? (s.heap.objs.size + 1) with
      | none => rfl
      | some o => exact absurd (Heap.lt_size q) (Nat.not_lt.mpr (Nat.le_succ _))
    have k1 : Keep s.heap ((s.heap.push { cls := .type "slice", data := .fields #[vl, vu, .none] }).push { cls := .type "list", data := .seq (slicePick vs.toArray plo phi none) }) := (Keep.push _ _).trans (Keep.push _ _)
    have e1 : slicePick vs.toArray plo phi none = ((vs.drop (plo.elim 0 (clipAt xs.length))).take (phi.elim xs.length (clipAt xs.length) - plo.elim 0 (clipAt xs.length))).toArray := by
      rw [slicePick_plain]; simp only [List.size_toArray, hlen]
    have hsz : (s.heap.push { cls := .type "slice", data := .fields #[vl, vu, .none] }).objs.size = s.heap.objs.size + 1 := Heap.size_push ..
    rw [hsz]
    refine q _ ((vs.drop (plo.elim 0 (clipAt xs.length))).take (phi.elim xs.length (clipAt xs.length) - plo.elim 0 (clipAt xs.length))) 0 _ _ k1 hz ?_ ?_
    · have := Heap.get?_push_size (s.heap.push { cls := .type "slice", data := .fields #[vl, vu, .none] }) (o := { cls := .type "list", data := .seq (slicePick vs.toArray plo phi none) }) rfl
      rw [hsz] at this
      rw [this, e1]
    · subst hd
      refine ((rr.drop.take).more fun b hb => ?_).keep k1
      rcases hb with rfl | hb
      · exact .inr hz
      · exact .inl hb

theorem DenF.sliceU {a u : Expr} {f g : List S → Option D} {p pos} (ha : DenE W n Γ G a f) (hb : DenE W n Γ G u g) : DenF W n Γ G (.Subscript a (.Slice none (some u) none p) pos) (fun ρ => bind2 (fun x y => dsub2 Option.none (some y) x) (f ρ) (g ρ)) := fun A env s M ρ oa d Q E P e' q => by
  obtain ⟨da, db, e1, e2, e3⟩ := bind2_some e'
  unfold dsub2 at e3
  split at e3
  · split at e3
    · rename_i xs hsm
      obtain ⟨c1, c2, f1, f2, f3⟩ := bind2_some e3
      cases f1; cases f3
      refine Subscript_ (ha A env s M ρ oa _ _ E P e1 fun v h1 tk1 k1 r1 => wpAny_Slice ?_)
      rw [evalPart_none]
      refine wpAny_pure ?_
      rw [evalPart_some]
      refine hb A env _ M ρ oa db _ E (P.up k1) e2 fun w h2 tk2 k2 r2 => ?_
      refine wpAny_pure ?_
      obtain ⟨i, hp, rfl⟩ := part_of r2 f2
      exact slice_core (s := { s with heap := h2, toks := tk2 }) (r1.keep k2) .none hp hsm (by simp) ((q.up k1).up k2)
    · cases e3
  · cases e3
theorem DenF.sliceL {a u : Expr} {f g : List S → Option D} {p pos} (ha : DenE W n Γ G a f) (hb : DenE W n Γ G u g) : DenF W n Γ G (.Subscript a (.Slice (some u) none none p) pos) (fun ρ => bind2 (fun x y => dsub2 (some y) Option.none x) (f ρ) (g ρ)) := fun A env s M ρ oa d Q E P e' q => by
  obtain ⟨da, db, e1, e2, e3⟩ := bind2_some e'
  unfold dsub2 at e3
  split at e3
  · split at e3
    · rename_i xs hsm
      obtain ⟨c1, c2, f1, f2, f3⟩ := bind2_some e3
      cases f2; cases f3
      refine Subscript_ (ha A env s M ρ oa _ _ E P e1 fun v h1 tk1 k1 r1 => wpAny_Slice ?_)
      rw [evalPart_some]
      refine hb A env _ M ρ oa db _ E (P.up k1) e2 fun w h2 tk2 k2 r2 => ?_
      rw [evalPart_none]
      refine wpAny_pure ?_
      refine wpAny_pure ?_
      obtain ⟨i, hp, rfl⟩ := part_of r2 f1
      exact slice_core (s := { s with heap := h2, toks := tk2 }) (r1.keep k2) hp .none hsm (by simp) ((q.up k1).up k2)
    · cases e3
  · cases e3

/- chained comparison -/
theorem wpAny_rel {Mo : Model} {A : Around} {E : Value → Shared → Prop} {s : Shared} {vs keep : List Value} {Q : Unit → Shared → Prop} (h : Q () s) : wpAny Mo A (release vs keep) Q E s := fun Γ p _ => by
  rw [Sem.wp_release]; exact h
theorem DenT.chain2 {o1 o2 : CmpOp} {F1 F2 : D → D → Option Bool} {l m r : Expr} {f g h : List S → Option D} {pos} (h1 : CmpSem W o1 F1) (h2 : CmpSem W o2 F2) (ha : DenE W n Γ G l f) (hb : DenE W n Γ G m g) (hc : DenE W n Γ G r h)
    (hm2 : behindInMarks o2 r = false := by with_unfolding_all rfl) (hn : 1 ≤ n := by decide) :
    DenT W n Γ G (.Compare l [o1, o2] [m, r] pos) (fun ρ => ite1 (bind2 F1 (f ρ) (g ρ)) (bind2 F2 (g ρ) (h ρ)) (some false)) := fun A env s M ρ oa d Q E P e q => by
  cases hf : bind2 F1 (f ρ) (g ρ) with
  | none => simp [hf, ite1] at e
  | some c =>
    obtain ⟨a, b, e1, e2, e3⟩ := bind2_some hf
    have step : isTrue (.Compare l [o1, o2] [m, r] pos) env (eval (.Compare l [o1, o2] [m, r] pos) env) = (do testChain pos (← eval l env) [o1, o2] [eval m env, markedBehindIn o2 r (eval r env)]) := rfl
    rw [step]
    refine wpAny_bind (ha A env s M ρ oa a _ E P e1 fun v h1' tk1 k1 r1 => ?_)
    show wpAny _ _ (do
      let rv ← holding [v] (eval m env)
      standAt pos
      let c ← holding [v, rv] (compareOp o1 v rv)
      release [v, rv] [c]
      if ← holding [c, rv] (truthy c) then testChain pos rv [o2] [markedBehindIn o2 r (eval r env)] else pure false) _ _ _
    refine wpAny_bind (wpAny_holding (hb A env _ M ρ oa b _ E (P.up k1) e2 fun u h2' tk2 k2 r2 => ?_))
    refine wpAny_bind (wpAny_standAt (wpAny_bind (wpAny_holding (h1 A _ M v u a b c _ E (P.ok.less hn) (r1.keep k2) r2 e3 fun h3 tk3 k3 => ?_))))
    refine wpAny_bind (wpAny_rel ?_)
    refine wpAny_bind (wpAny_holding (wpAny_truthy_bool ?_))
    cases c with
    | false =>
      simp only [hf, ite1, Option.some.injEq] at e
      subst e
      exact wpAny_pure (q h3 tk3 ((k1.trans k2).trans k3))
    | true =>
      simp only [hf, ite1] at e
      obtain ⟨b', c', g1, g2, g3⟩ := bind2_some e
      rw [e2] at g1; cases g1
      show wpAny _ _ (do
        let rv ← holding [u] (markedBehindIn o2 r (eval r env))
        standAt pos
        let c ← operate [u, rv] (compareOp o2 u rv)
        holding [c] (truthy c)) _ _ _
      rw [markedBehindIn_of_false hm2]
      have P3 := ((P.up (tk := tk1) k1).up (tk := tk2) k2).up (tk := tk3) k3
      refine wpAny_bind (wpAny_holding (hc A env _ M ρ oa c' _ E P3 g2 fun w h4 tk4 k4 r4 => ?_))
      refine wpAny_bind (wpAny_standAt (wpAny_bind (wpAny_operating (h2 A _ M u w b c' d _ E (P.ok.less hn) ((r2.keep k3).keep k4) r4 g3 fun h5 tk5 k5 => ?_))))
      exact wpAny_holding (wpAny_truthy_bool (q h5 tk5 ((((k1.trans k2).trans k3).trans k4).trans k5)))
end
end Gos
end

section
open PySem PySem.W PyProof.Rows
namespace Gos
open PySem

/-- what a turn of an iterator keeps -/
structure KeepI (own : Addr → Prop) (h h' : Heap) : Prop where
  keep : ∀ b o, ¬ own b → h.get? b = some o → h'.get? b = some o
  tree : ∀ b o, h.get? b = some o → (o.cls = .type "list" ∨ o.cls = .type "tuple") → h'.get? b = some o

theorem KeepI.rel {own M : Addr → Prop} {h h' : Heap} {v : Value} {d : D} (k : KeepI own h h') (r : Rel h M v d) : Rel h' M v d := r.to fun b o m g c => ⟨m, k.tree b o g c⟩
theorem KeepI.relAll {own M : Addr → Prop} {h h' : Heap} {v : List Value} {d : List D} (k : KeepI own h h') (r : RelAll h M v d) : RelAll h' M v d := r.to fun b o m g c => ⟨m, k.tree b o g c⟩
theorem KeepI.of_keep {own : Addr → Prop} {h h' : Heap} (k : Keep h h') : KeepI own h h' := ⟨fun b o _ e => k b o e, fun b o e _ => k b o e⟩
theorem KeepI.trans {own : Addr → Prop} {h h' h'' : Heap} (a : KeepI own h h') (b : KeepI own h' h'') : KeepI own h h'' :=
  ⟨fun c o n e => b.keep c o n (a.keep c o n e), fun c o e t => b.tree c o (a.tree c o e t) t⟩
theorem treeCls {v : Value} {T : String} (h : v = .type T) (hn : T ≠ "list" ∧ T ≠ "tuple") (t : v = .type "list" ∨ v = .type "tuple") : False := by
  rw [h] at t
  rcases t with t | t
  · exact hn.1 (by injection t)
  · exact hn.2 (by injection t)
/-- one object (no list, no tuple) may have turned -/
theorem KeepI.ext {i : Addr} {h h' : Heap} {o : Obj} {T : String} (k : Heap.ExtBut i h h') (g : h.get? i = some o) (hT : o.cls = .type T) (hn : T ≠ "list" ∧ T ≠ "tuple") {own : Addr → Prop} (ho : own i) : KeepI own h h' where
  keep := fun b ob n e => k b ob (fun x => n (x ▸ ho)) e
  tree := fun b ob e t => k b ob (fun x => by
    subst x
    rw [g] at e; cases e
    rw [hT] at t
    rcases t with t | t
    · exact hn.1 (by injection t)
    · exact hn.2 (by injection t)) e
theorem ne_of_cls {h : Heap} {a b : Addr} {o o' : Obj} {T T' : String} (g : h.get? a = some o) (g' : h.get? b = some o') (c : o.cls = .type T) (c' : o'.cls = .type T') (hn : T ≠ T') : a ≠ b := fun e => by
  subst e
  rw [g] at g'
  cases g'
  rw [c] at c'
  exact hn (by injection c')

noncomputable def Nxt (W : Gl) (A : Around) (tg : Expr) (it : Value) (s : Shared) (Q : Option Value → Shared → Prop) (E : Value → Shared → Prop) : Prop :=
  wpAny (model W.prog W.w) A (pyNext it) (fun r s1 => match r with
    | none => Q none s1
    | some v => wpAny (model W.prog W.w) A (letOwnedTupleGo tg it v) (fun _ s2 => Q (some v) s2) E s1) E s

noncomputable def ItOk (W : Gl) (A : Around) (tg : Expr) (own : Addr → Prop) (it : Value) : List D → Heap → (Addr → Prop) → Prop
  | [], h, M => ∀ h1 M1, Step M h M1 h1 → Dom h1 M1 → ∀ s Q E, s.heap = h1 → (∀ h' tk, KeepI own h1 h' → Q none { s with heap := h', toks := tk }) → Nxt W A tg it s Q E
  | d :: ds, h, M => ∀ h1 M1, Step M h M1 h1 → Dom h1 M1 → ∀ s Q E, s.heap = h1 → (∀ v h' tk, KeepI own h1 h' → (∀ b, own b → h'.get? b ≠ none) → Rel h' M1 v d → ItOk W A tg own it ds h' M1 → Q (some v) { s with heap := h', toks := tk }) → Nxt W A tg it s Q E
noncomputable def ItSelf (W : Gl) (A : Around) (it : Value) (h : Heap) (M : Addr → Prop) : Prop :=
  ∀ h1 M1, Step M h M1 h1 → ∀ s Q E, s.heap = h1 → Q it s → wpAny (model W.prog W.w) A (pyIter it) Q E s

noncomputable def ownersL : List String := ["enumerate", "zip", "dict_itemiterator", "dict_reverseitemiterator", "odict_iterator", "itertools.zip_longest", "itertools.pairwise"]
theorem letOwned_none {W : Gl} {A : Around} {tg : Expr} {r : Addr} {o : Obj} {T : String} {v : Value} {s : Shared} {Q : Unit → Shared → Prop} {E : Value → Shared → Prop} (g : s.heap.get? r = some o) (hT : o.cls = .type T) (hn : ownersL.contains T = false) (q : Q () s) :
    wpAny (model W.prog W.w) A (letOwnedTupleGo tg (.ref r) v) Q E s := by
  have key : wpAny (model W.prog W.w) A (do
      let (.ref r, .ref a) := (Value.ref r, v) | return
      let o ← load r
      match o.cls, o.data with
      | .type n, .fields vs =>
        if ownersL.contains n && vs[0]? == some (rawInt a) then
          rule "for.unpacks-the-owned-tuple"
          updateField r 0 .none
      | _, _ => pure ()) Q E s := by
    cases v with
    | ref a =>
      refine wpAny_bind (wpAny_load g ?_)
      rw [hT]
      split
      · rename_i n vs e _
        cases e
        rw [hn]
        exact wpAny_pure q
      · exact wpAny_pure q
    | _ => exact wpAny_pure q
  unfold letOwnedTupleGo
  cases tg <;> first | exact wpAny_pure q | exact key

section
variable {W : Gl} {A : Around} {tg : Expr}

theorem dom_some {h : Heap} {a : Addr} {o : Obj} (g : h.get? a = some o) : h.get? a ≠ none := by rw [g]; simp

theorem itList (hh : A.handled = none) {it l : Addr} {vs : List Value} {k : Nat} : ∀ (ds : List D) (i : Nat) (h : Heap) (M : Addr → Prop), h.IsListIter it l i → ¬ M it → ¬ M l → h.get? l = some (lstO vs k) → RelAll h M (vs.drop i) ds →
    ItOk W A tg (· = it) (.ref it) ds h M
  | [], i, h, M, hit, m1, m2, hl, r => fun h1 M1 st dm1 s Q E hs q => by
    subst hs
    obtain ⟨o, g, c, dd⟩ := hit
    have hit1 : s.heap.IsListIter it l i := ⟨o, st.keep _ _ m1 g, c, dd⟩
    have hl1 := st.keep _ _ m2 hl
    have hz : vs.drop i = [] := by cases h : vs.drop i with | nil => rfl | cons a b => rw [h] at r; cases r
    refine wpAny_pyNext_list_end hh hit1 (isList_of hl1) (by simpa using hz) fun h' k' => q h' s.toks (KeepI.ext k' (st.keep _ _ m1 g) c (by decide) rfl)
  | d :: ds, i, h, M, hit, m1, m2, hl, r => fun h1 M1 st dm1 s Q E hs q => by
    subst hs
    obtain ⟨o, g, c, dd⟩ := hit
    have hit1 : s.heap.IsListIter it l i := ⟨o, st.keep _ _ m1 g, c, dd⟩
    have hl1 := st.keep _ _ m2 hl
    have m1' : ¬ M1 it := fun x => (st.new it x).elim m1 fun e => by rw [g] at e; cases e
    have m2' : ¬ M1 l := fun x => (st.new l x).elim m2 fun e => by rw [hl] at e; cases e
    have hne : it ≠ l := ne_of_cls g hl c rfl (by decide)
    cases hd : vs.drop i with
    | nil => rw [hd] at r; cases r
    | cons v r' =>
      rw [hd] at r
      cases r with
      | cons x r =>
        have hv : vs[i]? = some v := by
          have := congrArg (·[0]?) hd
          simpa using this
        have hr' : vs.drop (i + 1) = r' := by
          have := congrArg (List.drop 1) hd
          simpa [List.drop_drop, Nat.add_comm] using this
        refine wpAny_pyNext_list_item hit1 (isList_of hl1) (x := v) (by simpa using hv) fun h' hit' hs' => ?_
        obtain ⟨o', g', c', d'⟩ := id hit'
        have kk : KeepI (· = it) s.heap h' := KeepI.ext hs'.extBut (st.keep _ _ m1 g) c (by decide) rfl
        refine letOwned_none (s := { s with heap := h' }) g' c' (by decide) ?_
        exact q v h' s.toks kk (fun b e => e ▸ dom_some g') (kk.rel (st.rel x)) (itList hh ds (i + 1) h' M1 hit' m1' m2' (hs'.extBut _ _ (Ne.symm hne) hl1) (hr' ▸ kk.relAll (st.relAll r)))

theorem drop_nil_of {h : Heap} {M : Addr → Prop} {vs : List Value} {i : Nat} (r : RelAll h M (vs.drop i) []) : vs[i]? = none := by
  have hz : vs.drop i = [] := by cases h : vs.drop i with | nil => rfl | cons a b => rw [h] at r; cases r
  simpa using hz
theorem drop_cons_of {h : Heap} {M : Addr → Prop} {vs : List Value} {i : Nat} {d : D} {ds : List D} (r : RelAll h M (vs.drop i) (d :: ds)) : ∃ v, vs[i]? = some v ∧ Rel h M v d ∧ RelAll h M (vs.drop (i + 1)) ds := by
  cases hd : vs.drop i with
  | nil => rw [hd] at r; cases r
  | cons v r' =>
    rw [hd] at r
    cases r with
    | cons x r =>
      refine ⟨v, ?_, x, ?_⟩
      · have := congrArg (·[0]?) hd
        simpa using this
      · have := congrArg (List.drop 1) hd
        have hr' : vs.drop (i + 1) = r' := by simpa [List.drop_drop, Nat.add_comm] using this
        rw [hr']; exact r

theorem isTup_of {h : Heap} {a : Addr} {vs : List Value} {k : Nat} (g : h.get? a = some (tupO vs k)) : h.IsTuple a vs.toArray := ⟨_, g, rfl, k, rfl⟩
theorem itTuple (hh : A.handled = none) {it l : Addr} {vs : List Value} {k : Nat} : ∀ (ds : List D) (i : Nat) (h : Heap) (M : Addr → Prop), h.IsTupleIter it l i → ¬ M it → ¬ M l → h.get? l = some (tupO vs k) → RelAll h M (vs.drop i) ds →
    ItOk W A tg (· = it) (.ref it) ds h M
  | [], i, h, M, hit, m1, m2, hl, r => fun h1 M1 st dm1 s Q E hs q => by
    subst hs
    obtain ⟨o, g, c, dd⟩ := hit
    have hit1 : s.heap.IsTupleIter it l i := ⟨o, st.keep _ _ m1 g, c, dd⟩
    have hl1 := st.keep _ _ m2 hl
    exact wpAny_pyNext_tuple_end hh hit1 (isTup_of hl1) (by simpa using drop_nil_of r) fun h' k' => q h' s.toks (KeepI.ext k' (st.keep _ _ m1 g) c (by decide) rfl)
  | d :: ds, i, h, M, hit, m1, m2, hl, r => fun h1 M1 st dm1 s Q E hs q => by
    subst hs
    obtain ⟨o, g, c, dd⟩ := hit
    have hit1 : s.heap.IsTupleIter it l i := ⟨o, st.keep _ _ m1 g, c, dd⟩
    have hl1 := st.keep _ _ m2 hl
    have m1' : ¬ M1 it := fun x => (st.new it x).elim m1 fun e => by rw [g] at e; cases e
    have m2' : ¬ M1 l := fun x => (st.new l x).elim m2 fun e => by rw [hl] at e; cases e
    have hne : it ≠ l := ne_of_cls g hl c rfl (by decide)
    obtain ⟨v, hv, x, r⟩ := drop_cons_of r
    refine wpAny_pyNext_tuple_item hit1 (isTup_of hl1) (x := v) (by simpa using hv) fun h' hit' hs' => ?_
    obtain ⟨o', g', c', d'⟩ := id hit'
    have kk : KeepI (· = it) s.heap h' := KeepI.ext hs'.extBut (st.keep _ _ m1 g) c (by decide) rfl
    refine letOwned_none (s := { s with heap := h' }) g' c' (by decide) ?_
    exact q v h' s.toks kk (fun b e => e ▸ dom_some g') (kk.rel (st.rel x)) (itTuple hh ds (i + 1) h' M1 hit' m1' m2' (hs'.extBut _ _ (Ne.symm hne) hl1) (kk.relAll (st.relAll r)))

noncomputable def rngL : Nat → Int → Int → List D
  | 0, _, _ => []
  | n + 1, x, st => .int x :: rngL n (x + st) st
theorem itRange (hh : A.handled = none) {it : Addr} {step : Int} : ∀ (n : Nat) (x : Int) (h : Heap) (M : Addr → Prop), IsRangeIter h it x n step → ¬ M it → ItOk W A tg (· = it) (.ref it) (rngL n x step) h M
  | 0, x, h, M, hit, m1 => fun h1 M1 st dm1 s Q E hs q => by
    subst hs
    exact wpAny_pyNext_range_end hh (st.keep _ _ m1 hit) (by simp) fun h' k' => q h' s.toks (KeepI.ext k' (st.keep _ _ m1 hit) rfl (by decide) rfl)
  | n + 1, x, h, M, hit, m1 => fun h1 M1 st dm1 s Q E hs q => by
    subst hs
    have m1' : ¬ M1 it := fun x => (st.new it x).elim m1 fun e => by rw [hit] at e; cases e
    refine wpAny_pyNext_range_item (st.keep _ _ m1 hit) (by omega) fun h' hit' hs' => ?_
    have kk : KeepI (· = it) s.heap h' := KeepI.ext hs'.extBut (st.keep _ _ m1 hit) rfl (by decide) rfl
    refine letOwned_none (s := { s with heap := h', toks := s.toks + 1 }) hit' rfl (by decide) ?_
    have e : ((n + 1 : Nat) : Int) - 1 = (n : Nat) := by omega
    rw [e] at hit'
    exact q _ h' (s.toks + 1) kk (fun b e => e ▸ dom_some hit') (.int _ _) (itRange hh n (x + step) h' M1 hit' m1')

theorem itRev (hh : A.handled = none) {it l : Addr} {vs : List Value} {k : Nat} : ∀ (i : Nat) (ds : List D) (h : Heap) (M : Addr → Prop), h.IsRevIter it l ((i : Int) - 1) → ¬ M it → ¬ M l → h.get? l = some (lstO vs k) → i ≤ vs.length → RelAll h M (vs.take i).reverse ds →
    ItOk W A tg (· = it) (.ref it) ds h M
  | 0, ds, h, M, hit, m1, m2, hl, _, r => by
    have hd : ds = [] := by simp only [List.take_zero, List.reverse_nil] at r; cases r; rfl
    subst hd
    exact fun h1 M1 st dm1 s Q E hs q => by
      subst hs
      obtain ⟨o, g, c, dd⟩ := hit
      exact wpAny_pyNext_rev_end hh (l := l) ⟨o, st.keep _ _ m1 g, c, dd⟩ fun h' k' => q h' s.toks (KeepI.ext k' (st.keep _ _ m1 g) c (by decide) rfl)
  | i + 1, ds, h, M, hit, m1, m2, hl, hi, r => by
    have hlt : i < vs.length := hi
    have ht : (vs.take (i + 1)).reverse = vs[i] :: (vs.take i).reverse := by
      rw [List.take_succ_eq_append_getElem hlt, List.reverse_append]; rfl
    rw [ht] at r
    cases r with
    | cons x r =>
      rename_i d ds
      exact fun h1 M1 st dm1 s Q E hs q => by
        subst hs
        obtain ⟨o, g, c, dd⟩ := hit
        have hit1 : s.heap.IsRevIter it l (i : Int) := ⟨o, st.keep _ _ m1 g, c, by rw [dd]; congr 3; simp [rawInt]⟩
        have hl1 := st.keep _ _ m2 hl
        have m1' : ¬ M1 it := fun x => (st.new it x).elim m1 fun e => by rw [g] at e; cases e
        have m2' : ¬ M1 l := fun x => (st.new l x).elim m2 fun e => by rw [hl] at e; cases e
        have hne : it ≠ l := ne_of_cls g hl c rfl (by decide)
        refine wpAny_pyNext_rev_item hit1 (isList_of hl1) (x := vs[i]) (by simp [hlt]) fun h' hit' hs' => ?_
        obtain ⟨o', g', c', d'⟩ := id hit'
        have kk : KeepI (· = it) s.heap h' := KeepI.ext hs'.extBut (st.keep _ _ m1 g) c (by decide) rfl
        refine letOwned_none (s := { s with heap := h' }) g' c' (by decide) ?_
        exact q _ h' s.toks kk (fun b e => e ▸ dom_some g') (kk.rel (st.rel x)) (itRev hh i ds h' M1 hit' m1' m2' (hs'.extBut _ _ (Ne.symm hne) hl1) (Nat.le_of_lt hlt) (kk.relAll (st.relAll r)))

noncomputable def enumL : Nat → List D → List D
  | _, [] => []
  | i, d :: r => .tuple [.int i, d] :: enumL (i + 1) r
theorem itEnum (hh : A.handled = none) {e it l : Addr} {vs : List Value} {k : Nat} {elts : List Expr} {x1 : Nat} {tp : Pos} : ∀ (ds : List D) (i : Nat) (old : Value) (h : Heap) (M : Addr → Prop), IsEnum h e it i old → h.IsListIter it l i → ¬ M e → ¬ M it → ¬ M l →
    h.get? l = some (lstO vs k) → RelAll h M (vs.drop i) ds → ItOk W A (.Tuple elts x1 tp) (fun b => b = e ∨ b = it) (.ref e) (enumL i ds) h M
  | [], i, old, h, M, he, hit, m0, m1, m2, hl, r => fun h1 M1 st dm1 s Q E hs q => by
    subst hs
    obtain ⟨o, g, c, dd⟩ := hit
    have hit1 : s.heap.IsListIter it l i := ⟨o, st.keep _ _ m1 g, c, dd⟩
    have hl1 := st.keep _ _ m2 hl
    exact wpAny_pyNext_enum_end hh (st.keep _ _ m0 he) hit1 (isList_of hl1) (by simpa using drop_nil_of r) fun h' k' => q h' s.toks (KeepI.ext k' (st.keep _ _ m1 g) c (by decide) (.inr rfl))
  | d :: ds, i, old, h, M, he, hit, m0, m1, m2, hl, r => fun h1 M1 st dm1 s Q E hs q => by
    subst hs
    obtain ⟨o, g, c, dd⟩ := hit
    have he1 := st.keep _ _ m0 he
    have hg1 := st.keep _ _ m1 g
    have hit1 : s.heap.IsListIter it l i := ⟨o, hg1, c, dd⟩
    have hl1 := st.keep _ _ m2 hl
    have m0' : ¬ M1 e := fun x => (st.new e x).elim m0 fun e => by rw [he] at e; cases e
    have m1' : ¬ M1 it := fun x => (st.new it x).elim m1 fun e => by rw [g] at e; cases e
    have m2' : ¬ M1 l := fun x => (st.new l x).elim m2 fun e => by rw [hl] at e; cases e
    have n1 : it ≠ l := ne_of_cls g hl c rfl (by decide)
    have n2 : e ≠ it := ne_of_cls he g rfl c (by decide)
    have n3 : e ≠ l := ne_of_cls he hl rfl rfl (by decide)
    obtain ⟨v, hv, x, r⟩ := drop_cons_of r
    refine wpAny_pyNext_enum_item he1 hit1 (isList_of hl1) (x := v) (by simpa using hv) n2 fun h2 he2 hit2 ht2 hz2 hk2 => ?_
    refine wpAny_letOwnedTupleGo_enum he2 fun h3 he3 hs3 => ?_
    obtain ⟨o3, g3, c3, d3⟩ := id hit2
    have hze : s.heap.objs.size ≠ e := fun q => Nat.lt_irrefl _ (q ▸ Heap.lt_size he1 : s.heap.objs.size < s.heap.objs.size)
    have kk : KeepI (fun b => b = e ∨ b = it) s.heap h3 := ⟨fun b ob nb eb => hs3.extBut b ob (fun q => nb (.inl q)) (hk2 b ob (fun q => nb (.inl q)) (fun q => nb (.inr q)) eb), fun b ob eb tb => by
      have b1 : b ≠ e := fun q => by subst q; rw [he1] at eb; cases eb; exact treeCls rfl (by decide) tb
      have b2 : b ≠ it := fun q => by subst q; rw [hg1] at eb; cases eb; exact treeCls c (by decide) tb
      exact hs3.extBut b ob b1 (hk2 b ob b1 b2 eb)⟩
    have hg3 : h3.get? it = some o3 := hs3.extBut _ _ (Ne.symm n2) g3
    have hnm : ¬ M1 s.heap.objs.size := fun x => dm1 _ x (get_size _)
    have hT : h3.get? s.heap.objs.size = some (tupO [.int i s.toks, v] 0) := hs3.extBut _ _ hze ht2
    refine q (.ref s.heap.objs.size) h3 (s.toks + 1) kk (fun b hb => ?_) (.tup hnm hT (.cons (.int _ _) (.cons (kk.rel (st.rel x)) .nil))) ?_
    · rcases hb with rfl | rfl
      · exact dom_some he3
      · exact dom_some hg3
    · exact itEnum hh ds (i + 1) v h3 M1 (by have := he3; simpa using this) ⟨o3, hg3, c3, d3⟩ m0' m1' m2' (hs3.extBut _ _ (Ne.symm n3) (hk2 _ _ (Ne.symm n3) (Ne.symm n1) hl1)) (kk.relAll (st.relAll r))
end
end Gos
end

section
open PySem PySem.W PyProof.Rows
namespace Gos
open PySem

noncomputable def DenI (W : Gl) (n : Nat) (Γ : Lay) (G : List Str) (tg : Expr) (e : Expr) (f : List S → Option (List D)) : Prop :=
  ∀ A env s M ρ oa ds (Q : Value → Shared → Prop) E, Pre W n Γ G A env s M ρ oa → f ρ = some ds →
    (∀ it own h' tk, Keep s.heap h' → (∀ b, own b → s.heap.get? b = none) → (∀ b, own b → h'.get? b ≠ none) → ItOk W A tg own it ds h' M → ItSelf W A it h' M → Q it { s with heap := h', toks := tk }) →
    wpAny (model W.prog W.w) A (eval e env) (fun x s1 => wpAny (model W.prog W.w) A (pyIter x) Q E s1) E s

noncomputable def dseq : D → Option (List D)
  | .list xs => some xs
  | .tuple xs => some xs
  | _ => none
noncomputable def rng1 : List D → Option (List D)
  | [.int b] => if decide (b ≤ 1000000) && decide (-1000000 ≤ b) then some (rngL b.toNat 0 1) else none
  | _ => none
noncomputable def rng2 : List D → Option (List D)
  | [.int a, .int b] => if decide (b ≤ 1000000) && decide (-1000000 ≤ b) && decide (a ≤ 1000000) && decide (-1000000 ≤ a) then some (rngL (b - a).toNat a 1) else none
  | _ => none
noncomputable def rng3 : List D → Option (List D)
  | [.int a, .int b, .int (.negSucc 0)] => if decide (b ≤ 1000000) && decide (-1000000 ≤ b) && decide (a ≤ 1000000) && decide (-1000000 ≤ a) then some (rngL (a - b).toNat a (-1)) else none
  | _ => none
noncomputable def denum : List D → Option (List D)
  | [.list xs] => some (enumL 0 xs)
  | _ => none
noncomputable def drev : List D → Option (List D)
  | [.list xs] => some xs.reverse
  | _ => none

section
variable {W : Gl} {n : Nat} {Γ : Lay} {G : List Str} {tg : Expr}

theorem not_new {h : Heap} {M : Addr → Prop} {a : Addr} (dm : Dom h M) (e : h.get? a = none) : ¬ M a := fun m => dm a m e

theorem DenI.seq {e : Expr} {f : List S → Option D} (ha : DenE W n Γ G e f) : DenI W n Γ G tg e (fun ρ => bind1 dseq (f ρ)) := fun A env s M ρ oa ds Q E P e' q => by
  obtain ⟨d, e1, e2⟩ := bind1_some e'
  refine ha A env s M ρ oa d _ E P e1 fun v h1 tk1 k1 r1 => ?_
  have dm := (P.env.keep k1).dom
  have hz := get_size h1
  have hz0 : s.heap.get? h1.objs.size = none := by
    cases g : s.heap.get? h1.objs.size with
    | none => rfl
    | some o => rw [k1 _ _ g] at hz; cases hz
  unfold dseq at e2
  split at e2
  · cases e2
    cases r1 with
    | lst m g rr =>
      rename_i a vs k
      refine wpAny_pyIter_list (isList_of g) ?_
      have g' := Heap.get?_push_size h1 (o := { cls := .type "list_iterator", data := .fields #[.ref a, .int 0 0] }) rfl
      refine q (.ref h1.objs.size) (· = h1.objs.size) _ tk1 (k1.trans (Keep.push _ _)) (fun b e => e ▸ hz0) (fun b e => e ▸ dom_some g') ?_ ?_
      · exact itList P.ok.hd _ 0 _ M ⟨_, g', rfl, rfl⟩ (not_new dm hz) m (Heap.get?_push_of_some _ g) (by simpa using rr.keep (Keep.push _ _))
      · exact fun h2 M2 st s Q E hs q => by
          subst hs
          exact wpAny_pyIter_listiter (l := a) (i := 0) ⟨_, st.keep _ _ (not_new dm hz) g', rfl, rfl⟩ q
  · cases e2
    cases r1 with
    | tup m g rr =>
      rename_i a vs k
      refine wpAny_pyIter_tuple (isTup_of g) ?_
      have g' := Heap.get?_push_size h1 (o := { cls := .type "tuple_iterator", data := .fields #[.ref a, .int 0 0] }) rfl
      refine q (.ref h1.objs.size) (· = h1.objs.size) _ tk1 (k1.trans (Keep.push _ _)) (fun b e => e ▸ hz0) (fun b e => e ▸ dom_some g') ?_ ?_
      · exact itTuple P.ok.hd _ 0 _ M ⟨_, g', rfl, rfl⟩ (not_new dm hz) m (Heap.get?_push_of_some _ g) (by simpa using rr.keep (Keep.push _ _))
      · exact fun h2 M2 st s Q E hs q => by
          subst hs
          exact wpAny_pyIter_tupleiter (t := a) (i := 0) ⟨_, st.keep _ _ (not_new dm hz) g', rfl, rfl⟩ q
  · cases e2

theorem fits_of {i : Int} (h1 : -(2 ^ 62) ≤ i) (h2 : i ≤ 2 ^ 62) : Builtin.Range.rangeFitsLong i = true := by
  unfold Builtin.Range.rangeFitsLong
  simp only [Bool.and_eq_true, decide_eq_true_eq]
  omega
theorem small_step {a b : Int} (ha : -1000000 ≤ a) (ha' : a ≤ 1000000) (hb : -1000000 ≤ b) (hb' : b ≤ 1000000) : Builtin.Range.small a b 1 = true ∧ Builtin.Range.small a b (-1) = true := by
  constructor
  · exact small_one (by omega) (by omega) (by omega) (by omega)
  · have e : Builtin.Range.rangeSize a b (-1) = if a > b then a - b else 0 := by
      unfold Builtin.Range.rangeSize
      rw [if_neg (by decide)]
      split
      · have : (a - b - 1) / (- -1) = a - b - 1 := by simp
        rw [this]; omega
      · rfl
    unfold Builtin.Range.small
    rw [e]
    have h1 := fits_of (i := a) (by omega) (by omega)
    have h2 := fits_of (i := b) (by omega) (by omega)
    have h3 : Builtin.Range.rangeFitsLong (-1) = true := fits_of (by omega) (by omega)
    have h4 : Builtin.Range.rangeFitsLong (if a > b then a - b else 0) = true := fits_of (by split <;> omega) (by split <;> omega)
    have h5 : Builtin.Range.rangeFitsLong (b + (-1 + 1)) = true := fits_of (by omega) (by omega)
    rw [h1, h2, h3, h4, if_neg (show ¬ ((-1 : Int) > 0) by decide), h5]
    simp

theorem rngIter {A : Around} {s : Shared} {M : Addr → Prop} {a b c : Int} {t u v : Tok} {h1 : Heap} {tk : Nat} {Q : Value → Shared → Prop} {E : Value → Shared → Prop} {k : Nat} (hh : A.handled = none) (dm : Dom h1 M) (k1 : Keep s.heap h1) (hsm : Builtin.Range.small a b c = true)
    (hk : Builtin.Range.rangeSize a b c = (k : Int))
    (q : ∀ it own h' tk, Keep s.heap h' → (∀ b, own b → s.heap.get? b = none) → (∀ b, own b → h'.get? b ≠ none) → ItOk W A tg own it (rngL k a c) h' M → ItSelf W A it h' M → Q it { s with heap := h', toks := tk }) :
    wpAny (model W.prog W.w) A (pyIter (.ref h1.objs.size)) Q E { s with heap := h1.push { cls := .type "range", data := .fields #[.int a t, .int b u, .int c v] }, toks := tk } := by
  have hz := get_size h1
  have gr := Heap.get?_push_size h1 (o := { cls := .type "range", data := .fields #[.int a t, .int b u, .int c v] }) rfl
  refine wpAny_pyIter_range gr hsm ?_
  rw [hk]
  have hsz : (h1.push { cls := .type "range", data := .fields #[.int a t, .int b u, .int c v] }).objs.size = h1.objs.size + 1 := Heap.size_push ..
  have g' := Heap.get?_push_size (h1.push { cls := .type "range", data := .fields #[.int a t, .int b u, .int c v] }) (o := { cls := .type "range_iterator", data := .fields #[rawInt a, rawInt (k : Int), rawInt c] }) rfl
  have hz1 : h1.get? (h1.objs.size + 1) = none := by
    cases g : h1.get? (h1.objs.size + 1) with
    | none => rfl
    | some o => exact absurd (Heap.lt_size g) (Nat.not_lt.mpr (Nat.le_succ _))
  have hz0 : s.heap.get? (h1.objs.size + 1) = none := by
    cases g : s.heap.get? (h1.objs.size + 1) with
    | none => rfl
    | some o => rw [k1 _ _ g] at hz1; cases hz1
  rw [hsz] at g' ⊢
  refine q (.ref (h1.objs.size + 1)) (· = h1.objs.size + 1) _ tk ((k1.trans (Keep.push _ _)).trans (Keep.push _ _)) (fun b e => e ▸ hz0) (fun b e => e ▸ dom_some g') ?_ ?_
  · exact itRange hh k a _ M g' (not_new dm hz1)
  · exact fun h2 M2 st s Q E hs q => by
      subst hs
      exact wpAny_pyIter_rangeiter (st.keep _ _ (not_new dm hz1) g') q

theorem DenI.rng1 (B : W.Fine) {e : Expr} {fs : List S → Option (List D)} {p pos : Pos} (ha : DenA W n Γ G [e] fs) (hx : ("range" : Str) ∈ G := by decide +kernel) (hs : noStars [e] = true := by rfl) :
    DenI W n Γ G tg (.Call (.Name "range" p) [e] [] pos) (fun ρ => bind1 Gos.rng1 (fs ρ)) := fun A env s M ρ oa ds Q E P e' q => by
  obtain ⟨d, e1, e2⟩ := bind1_some e'
  refine wpAny_Call_NameR (nameBlt B.toOk P hx (B.miss _ (by decide +kernel)) (by decide +kernel) boot_range ?_)
  refine callBlt (.inr ⟨_, rfl⟩) hs (ha A env s M ρ oa d _ E pos P e1 fun vs h1 tk1 k1 r1 => ?_)
  unfold Gos.rng1 at e2
  split at e2
  · split at e2
    · rename_i b hb
      cases e2
      have hb := Bool.and_eq_true_iff.mp hb
      have hb1 : b ≤ 1000000 := of_decide_eq_true hb.1
      have hb2 : -1000000 ≤ b := of_decide_eq_true hb.2
      obtain ⟨v, rfl, x⟩ := r1.one
      cases x with
      | int _ t =>
        refine call_range_1 ?_
        refine rngIter (s := s) P.ok.hd (P.env.keep k1).dom k1 (small_step (by decide) (by decide) hb2 hb1).1 ?_ q
        rw [rangeSize_one]; split <;> omega
    · cases e2
  · cases e2
theorem DenI.rng2 (B : W.Fine) {e e2 : Expr} {fs : List S → Option (List D)} {p pos : Pos} (ha : DenA W n Γ G [e, e2] fs) (hx : ("range" : Str) ∈ G := by decide +kernel) (hs : noStars [e, e2] = true := by rfl) :
    DenI W n Γ G tg (.Call (.Name "range" p) [e, e2] [] pos) (fun ρ => bind1 Gos.rng2 (fs ρ)) := fun A env s M ρ oa ds Q E P e' q => by
  obtain ⟨d, e1, e2⟩ := bind1_some e'
  refine wpAny_Call_NameR (nameBlt B.toOk P hx (B.miss _ (by decide +kernel)) (by decide +kernel) boot_range ?_)
  refine callBlt (.inr ⟨_, rfl⟩) hs (ha A env s M ρ oa d _ E pos P e1 fun vs h1 tk1 k1 r1 => ?_)
  unfold Gos.rng2 at e2
  split at e2
  · split at e2
    · rename_i a b hb
      cases e2
      have hb := Bool.and_eq_true_iff.mp hb
      have hb' := Bool.and_eq_true_iff.mp hb.1
      have hb'' := Bool.and_eq_true_iff.mp hb'.1
      obtain ⟨v, w, rfl, x, y⟩ := r1.two
      cases x with
      | int _ t =>
        cases y with
        | int _ u =>
          refine call_range_2 ?_
          have h1 : b ≤ 1000000 := of_decide_eq_true hb''.1
          have h2 : -1000000 ≤ b := of_decide_eq_true hb''.2
          have h3 : a ≤ 1000000 := of_decide_eq_true hb'.2
          have h4 : -1000000 ≤ a := of_decide_eq_true hb.2
          refine rngIter (s := s) P.ok.hd (P.env.keep k1).dom k1 (small_step h4 h3 h2 h1).1 ?_ q
          rw [rangeSize_one]; split <;> omega
    · cases e2
  · cases e2
theorem DenI.rng3 (B : W.Fine) {e e2 e3 : Expr} {fs : List S → Option (List D)} {p pos : Pos} (ha : DenA W n Γ G [e, e2, e3] fs) (hx : ("range" : Str) ∈ G := by decide +kernel) (hs : noStars [e, e2, e3] = true := by rfl) :
    DenI W n Γ G tg (.Call (.Name "range" p) [e, e2, e3] [] pos) (fun ρ => bind1 Gos.rng3 (fs ρ)) := fun A env s M ρ oa ds Q E P e' q => by
  obtain ⟨d, e1, e2⟩ := bind1_some e'
  refine wpAny_Call_NameR (nameBlt B.toOk P hx (B.miss _ (by decide +kernel)) (by decide +kernel) boot_range ?_)
  refine callBlt (.inr ⟨_, rfl⟩) hs (ha A env s M ρ oa d _ E pos P e1 fun vs h1 tk1 k1 r1 => ?_)
  unfold Gos.rng3 at e2
  split at e2
  · split at e2
    · rename_i a b hb
      cases e2
      have hb := Bool.and_eq_true_iff.mp hb
      have hb' := Bool.and_eq_true_iff.mp hb.1
      have hb'' := Bool.and_eq_true_iff.mp hb'.1
      obtain ⟨v, w, u, rfl, x, y, z⟩ := r1.three
      cases x with
      | int _ t =>
        cases y with
        | int _ u =>
          cases z with
          | int _ o =>
            have h1' : b ≤ 1000000 := of_decide_eq_true hb''.1
            have h2 : -1000000 ≤ b := of_decide_eq_true hb''.2
            have h3 : a ≤ 1000000 := of_decide_eq_true hb'.2
            have h4 : -1000000 ≤ a := of_decide_eq_true hb.2
            refine call_range_3 (by decide) ?_ (.inl (PyProof.noPylong_of_log2 (by decide +kernel)))
            refine rngIter (s := s) P.ok.hd (P.env.keep k1).dom k1 (small_step h4 h3 h2 h1').2 ?_ q
            unfold Builtin.Range.rangeSize
            rw [if_neg (by decide)]
            split
            · have : (a - b - 1) / (- Int.negSucc 0) = a - b - 1 := by
                rw [show - Int.negSucc 0 = 1 from rfl]; simp
              rw [this]; omega
            · omega
    · cases e2
  · cases e2
theorem DenI.rev (B : W.Fine) {e : Expr} {fs : List S → Option (List D)} {p pos : Pos} (ha : DenA W n Γ G [e] fs) (hx : ("reversed" : Str) ∈ G := by decide +kernel) (hs : noStars [e] = true := by rfl) :
    DenI W n Γ G tg (.Call (.Name "reversed" p) [e] [] pos) (fun ρ => bind1 drev (fs ρ)) := fun A env s M ρ oa ds Q E P e' q => by
  obtain ⟨d, e1, e2⟩ := bind1_some e'
  refine wpAny_Call_NameR (nameBlt B.toOk P hx (B.miss _ (by decide +kernel)) (by decide +kernel) boot_reversed ?_)
  refine callBlt (.inr ⟨_, rfl⟩) hs (ha A env s M ρ oa d _ E pos P e1 fun vs h1 tk1 k1 r1 => ?_)
  unfold drev at e2
  split at e2
  · cases e2
    obtain ⟨v, rfl, x⟩ := r1.one
    cases x with
    | lst m g rr =>
      rename_i a vs k
      have dm := (P.env.keep k1).dom
      have hz := get_size h1
      have hz0 : s.heap.get? h1.objs.size = none := by
        cases g : s.heap.get? h1.objs.size with
        | none => rfl
        | some o => rw [k1 _ _ g] at hz; cases hz
      refine call_reversed_list (isList_of g) ?_
      have g' := Heap.get?_push_size h1 (o := revObj a ((vs.toArray.size : Int) - 1)) rfl
      have hi : (h1.push (revObj a ((vs.toArray.size : Int) - 1))).IsRevIter h1.objs.size a ((vs.length : Int) - 1) := ⟨_, g', rfl, by simp [revObj]⟩
      refine wpAny_pyIter_revIter hi ?_
      refine q (.ref h1.objs.size) (· = h1.objs.size) _ tk1 (k1.trans (Keep.push _ _)) (fun b e => e ▸ hz0) (fun b e => e ▸ dom_some g') ?_ ?_
      · exact itRev P.ok.hd vs.length _ _ M hi (not_new dm hz) m (Heap.get?_push_of_some _ g) (Nat.le_refl _) (by rw [List.take_length]; exact (rr.reverse).keep (Keep.push _ _))
      · exact fun h2 M2 st s Q E hs q => by
          subst hs
          obtain ⟨o, go, c, dd⟩ := hi
          exact wpAny_pyIter_revIter (l := a) (i := (vs.length : Int) - 1) ⟨_, st.keep _ _ (not_new dm hz) go, c, dd⟩ q
  · cases e2
theorem DenI.enum (B : W.Fine) {e : Expr} {fs : List S → Option (List D)} {p pos : Pos} {elts : List Expr} {x1 : Nat} {tp : Pos} (ha : DenA W n Γ G [e] fs) (hx : ("enumerate" : Str) ∈ G := by decide +kernel) (hs : noStars [e] = true := by rfl) :
    DenI W n Γ G (.Tuple elts x1 tp) (.Call (.Name "enumerate" p) [e] [] pos) (fun ρ => bind1 denum (fs ρ)) := fun A env s M ρ oa ds Q E P e' q => by
  obtain ⟨d, e1, e2⟩ := bind1_some e'
  refine wpAny_Call_NameR (nameBlt B.toOk P hx (B.miss _ (by decide +kernel)) (by decide +kernel) boot_enumerate ?_)
  refine callBlt (.inr ⟨_, rfl⟩) hs (ha A env s M ρ oa d _ E pos P e1 fun vs h1 tk1 k1 r1 => ?_)
  unfold denum at e2
  split at e2
  · cases e2
    obtain ⟨v, rfl, x⟩ := r1.one
    cases x with
    | lst m g rr =>
      rename_i a vs k
      have dm := (P.env.keep k1).dom
      have hz := get_size h1
      have hz1 : h1.get? (h1.objs.size + 1) = none := by
        cases g : h1.get? (h1.objs.size + 1) with
        | none => rfl
        | some o => exact absurd (Heap.lt_size g) (Nat.not_lt.mpr (Nat.le_succ _))
      have back : ∀ {b : Addr}, h1.get? b = none → s.heap.get? b = none := fun {b} e => by
        cases g : s.heap.get? b with
        | none => rfl
        | some o => rw [k1 _ _ g] at e; cases e
      refine call_enumerate_list (isList_of g) fun h2 he hit _ k2 => ?_
      refine wpAny_pyIter_enum he ?_
      obtain ⟨o, go, c, dd⟩ := id hit
      refine q (.ref (h1.objs.size + 1)) (fun b => b = h1.objs.size + 1 ∨ b = h1.objs.size) _ tk1 (k1.trans k2) (fun b e => ?_) (fun b e => ?_) ?_ ?_
      · rcases e with rfl | rfl
        · exact back hz1
        · exact back hz
      · rcases e with rfl | rfl
        · exact dom_some he
        · exact dom_some go
      · exact itEnum P.ok.hd _ 0 .none _ M he hit (not_new dm hz1) (not_new dm hz) m (k2 _ _ g) (by simpa using rr.keep k2)
      · exact fun h3 M3 st s Q E hs q => by
          subst hs
          exact wpAny_pyIter_enum (st.keep _ _ (not_new dm hz1) he) q
  · cases e2
end
end Gos
end

section
open PySem PySem.W PyProof.Rows
namespace Gos
open PySem

noncomputable def SlotAt (env : Env) (x : Str) (k : VK) (c : Addr) : Prop := (k = .loc ∧ c = env.locals) ∨ (k = .cel ∧ env.cells.lookup x = some c)

theorem ns_ne_cell {h : Heap} {a c : Addr} {m : Str → Option Value} {ov : Option Value} (n : h.Ns a m) (x : h.IsCell c ov) : a ≠ c := fun e => by
  subst e
  obtain ⟨o, es, ep, g, d, _⟩ := n
  obtain ⟨o', g', d'⟩ := x
  rw [g] at g'; cases g'
  rw [d] at d'; cases d'
theorem ns_ne_list {h : Heap} {a c : Addr} {m : Str → Option Value} {vs : List Value} {k : Nat} (n : h.Ns a m) (x : h.get? c = some (lstO vs k)) : a ≠ c := fun e => by
  subst e
  obtain ⟨o, es, ep, g, d, _⟩ := n
  rw [g] at x; cases x
  cases d
theorem cell_ne_list {h : Heap} {a c : Addr} {ov : Option Value} {vs : List Value} {k : Nat} (n : h.IsCell a ov) (x : h.get? c = some (lstO vs k)) : a ≠ c := fun e => by
  subst e
  obtain ⟨o, g, d⟩ := n
  rw [g] at x; cases x
  cases d

theorem Trees.same {h h' : Heap} {M : Addr → Prop} {c : Addr} (hs : Heap.SameBut c h h') (hM : M c) : Trees h M h' M := fun b o m g _ => ⟨m, (hs.2 b fun e => m (e ▸ hM)).trans g⟩
theorem SV.same {h h' : Heap} {M : Addr → Prop} {a c : Addr} {σ : S} {ov : Option Value} (hs : Heap.SameBut c h h') (hM : M c) (hc : ∀ p, σ = .own p → OwnIs h M a p → c ≠ a) (x : SV h M a σ ov) : SV h' M a σ ov :=
  x.to (Trees.same hs hM) fun p e => by subst e; exact ⟨x.2.1, fun o g => (hs.2 a (Ne.symm (hc p rfl x.2.2))).trans g⟩

theorem dom_same {h h' : Heap} {M : Addr → Prop} {c : Addr} (dm : Dom h M) (hs : Heap.SameBut c h h') (hc : h'.get? c ≠ none) : Dom h' M := fun b m e => by
  by_cases x : b = c
  · subst x; exact hc e
  · rw [hs.2 b x] at e; exact dm b m e

/-- a change at one mutable address that is no own list, no cell of a slot and not the names -/
theorem sset_own {ρ : List S} {i j : Nat} {d : D} {ds : Pay} (e : sget (sset ρ i (.fr d)) j = .own ds) : i ≠ j ∧ sget ρ j = .own ds := by
  by_cases x : i = j
  · subst x
    rcases @sget_sset_self (.fr d) ρ i with h | h <;> rw [h] at e <;> cases e
  · exact ⟨x, by rwa [sget_sset_ne x] at e⟩

/-- the objects that the frame stands on are kept -/
theorem EnvOk.move {Γ : Lay} {env : Env} {ρ : List S} {h h' : Heap} {M : Addr → Prop} {oa : Nat → Addr} (eo : EnvOk Γ env ρ h M oa) (kM : ∀ b o, M b → h.get? b = some o → h'.get? b = some o) (kT : Trees h M h' M) : EnvOk Γ env ρ h' M oa := by
  have hns : h'.Ns env.locals (h.nsMap env.locals) := eo.ns.at' fun o g => kM _ _ eo.ML g
  have hm := hns.eq_nsMap
  have sv : ∀ {a : Addr} {σ : S} {ov : Option Value}, SV h M a σ ov → SV h' M a σ ov := fun {a σ ov} x =>
    x.to kT fun p e => by subst e; exact ⟨x.2.1, fun o g => kM _ _ x.2.1 g⟩
  refine ⟨hm ▸ hns, eo.ML, fun a m e => ?_, fun i x hx => ?_, fun i x hx => ?_, eo.apart, eo.own, eo.oL⟩
  · cases g : h.get? a with
    | none => exact eo.dom a m g
    | some o => rw [kM a o m g] at e; cases e
  · rw [← hm]; exact sv (eo.loc i x hx)
  · obtain ⟨c, ov, h1, ⟨o, g, dd⟩, h3, h4⟩ := eo.cel i x hx
    exact ⟨c, ov, h1, ⟨o, kM _ _ h3 g, dd⟩, h3, sv h4⟩
/-- one mutable object has turned that the slots don't name -/
theorem EnvOk.chg {Γ : Lay} {env : Env} {ρ : List S} {h h' : Heap} {M : Addr → Prop} {oa : Nat → Addr} {c : Addr} (eo : EnvOk Γ env ρ h M oa) (hs : Heap.SameBut c h h') (hc : h'.get? c ≠ none) (mc : M c) (nL : c ≠ env.locals)
    (nC : ∀ (i : Nat) x c', Γ[i]? = some (x, VK.cel) → env.cells.lookup x = some c' → c ≠ c') (nO : ∀ i ds, sget ρ i = .own ds → c ≠ oa i) : EnvOk Γ env ρ h' M oa := by
  have hns : h'.Ns env.locals (h.nsMap env.locals) := eo.ns.sameBut hs (Ne.symm nL)
  have hm := hns.eq_nsMap
  have sv : ∀ {i : Nat} {ov : Option Value}, SV h M (oa i) (sget ρ i) ov → SV h' M (oa i) (sget ρ i) ov := fun {i ov} x =>
    x.same hs mc fun p e _ => nO i p e
  refine ⟨hm ▸ hns, eo.ML, dom_same eo.dom hs hc, fun i x hx => ?_, fun i x hx => ?_, eo.apart, eo.own, eo.oL⟩
  · rw [← hm]; exact sv (eo.loc i x hx)
  · obtain ⟨c', ov, h1, h2, h3, h4⟩ := eo.cel i x hx
    exact ⟨c', ov, h1, h2.sameBut hs (Ne.symm (nC i x c' hx h1)), h3, sv h4⟩

section
variable {W : Gl} {n : Nat} {Γ : Lay} {G : List Str}

theorem storeSlot {Mo : Model} {A : Around} {env : Env} {s : Shared} {M : Addr → Prop} {ρ : List S} {oa : Nat → Addr} {Q : Unit → Shared → Prop} {E : Value → Shared → Prop} {i : Nat} {x : Str} {k : VK} {v : Value} {d : D}
    (es : EnvS Γ G env) (eo : EnvOk Γ env ρ s.heap M oa) (hx : Γ[i]? = some (x, k)) (hk : k ≠ .no) (r : Rel s.heap M v d)
    (q : ∀ h' tk c, SlotAt env x k c → M c → Heap.SameBut c s.heap h' → EnvOk Γ env (sset ρ i (.fr d)) h' M oa → Q () { s with heap := h', toks := tk }) :
    wpAny Mo A (storeName env x v) Q E s := by
  cases k with
  | no => exact absurd rfl hk
  | loc =>
    refine wpAny_storeName_local (es.loc i x hx) eo.ns (fun h' hn hs => ?_) (by rw [es.kind]; rfl)
    have hm := hn.eq_nsMap
    have hdom : h'.get? env.locals ≠ none := by obtain ⟨o, _, _, g, _⟩ := hn; exact dom_some g
    refine q h' _ env.locals (.inl ⟨rfl, rfl⟩) eo.ML hs ⟨hm ▸ hn, eo.ML, dom_same eo.dom hs hdom, fun j y hj => ?_, fun j y hj => ?_, fun a b ds ess h1 h2 => ?_, fun j ds e => eo.own j ds (sset_own e).2, fun j ds e => eo.oL j ds (sset_own e).2⟩
    · rw [← hm]
      by_cases e : i = j
      · subst e
        rw [hx] at hj; cases hj
        rcases @sget_sset_self (.fr d) ρ i with h | h <;> rw [h]
        · exact ⟨v, by simp, r.to fun b o m g _ => ⟨m, (hs.2 b fun e => m (e ▸ eo.ML)).trans g⟩⟩
        · trivial
      · have hne : y ≠ x := fun e' => e (es.one i j x _ _ hx (e' ▸ hj) (by decide) (by decide))
        rw [sget_sset_ne e]
        simp only [hne, if_false]
        exact (eo.loc j y hj).same hs eo.ML fun p e _ => eo.oL j p e
    · by_cases e : i = j
      · subst e
        rw [hx] at hj; cases hj
      · rw [sget_sset_ne e]
        obtain ⟨c, ov, h1, h2, h3, h4⟩ := eo.cel j y hj
        exact ⟨c, ov, h1, h2.sameBut hs (Ne.symm (ns_ne_cell eo.ns h2)), h3, h4.same hs eo.ML fun p e _ => eo.oL j p e⟩
    · exact fun h3 => eo.apart a b ds ess (sset_own h1).2 (sset_own h2).2 h3
  | cel =>
    obtain ⟨c, ov, h1, h2, h3, h4⟩ := eo.cel i x hx
    refine wpAny_storeName_cell es.kind (es.cel i x hx) h1 h2 fun h' hc hs => ?_
    have hdom : h'.get? c ≠ none := by obtain ⟨o, g, _⟩ := hc; exact dom_some g
    have hns : h'.Ns env.locals (s.heap.nsMap env.locals) := eo.ns.sameBut hs (ns_ne_cell eo.ns h2)
    have hm := hns.eq_nsMap
    refine q h' _ c (.inr ⟨rfl, h1⟩) h3 hs ⟨hm ▸ hns, eo.ML, dom_same eo.dom hs hdom, fun j y hj => ?_, fun j y hj => ?_, fun a b ds ess g1 g2 => ?_, fun j ds e => eo.own j ds (sset_own e).2, fun j ds e => eo.oL j ds (sset_own e).2⟩
    · have e : i ≠ j := fun e => by subst e; rw [hx] at hj; cases hj
      rw [← hm, sget_sset_ne e]
      exact (eo.loc j y hj).same hs h3 fun p e x => by obtain ⟨o, g, d⟩ := h2; exact x.notCell g d
    · by_cases e : i = j
      · subst e
        rw [hx] at hj; cases hj
        refine ⟨c, some v, h1, hc, h3, ?_⟩
        rcases @sget_sset_self (.fr d) ρ i with h | h <;> rw [h]
        · exact ⟨v, rfl, r.to fun b o m g _ => ⟨m, (hs.2 b fun e => m (e ▸ h3)).trans g⟩⟩
        · trivial
      · rw [sget_sset_ne e]
        obtain ⟨c', ov', g1, g2, g3, g4⟩ := eo.cel j y hj
        have hne : c' ≠ c := fun e' => by
          have := es.apart x y c h1 (e' ▸ g1)
          subst this
          exact e (es.one i j _ _ _ hx hj (by decide) (by decide))
        exact ⟨c', ov', g1, g2.sameBut hs hne, g3, g4.same hs h3 fun p e x => by obtain ⟨o, g, d⟩ := h2; exact x.notCell g d⟩
    · exact fun g3 => eo.apart a b ds ess (sset_own g1).2 (sset_own g2).2 g3

noncomputable def TgA (Γ : Lay) (env : Env) (k : Nat) (b : Addr) : Prop := b = env.locals ∨ ∃ i x, i < k ∧ Γ[i]? = some (x, VK.cel) ∧ env.cells.lookup x = some b
theorem SlotAt.tgA {env : Env} {x : Str} {kd : VK} {c : Addr} {i k : Nat} (h : SlotAt env x kd c) (hx : Γ[i]? = some (x, kd)) (hi : i < k) : TgA Γ env k c := by
  rcases h with ⟨rfl, rfl⟩ | ⟨rfl, e⟩
  · exact .inl rfl
  · exact .inr ⟨i, x, hi, hx, e⟩

noncomputable def DenTg (W : Gl) (Γ : Lay) (G : List Str) (k : Nat) (tg : Expr) (u : D → List S → Option (List S)) : Prop :=
  ∀ A env s M ρ oa v d ρ' (Q : Unit → Shared → Prop) E, Ok 0 A → EnvS Γ G env → EnvOk Γ env ρ s.heap M oa → Rel s.heap M v d → u d ρ = some ρ' →
    (∀ h' tk, (∀ b o, ¬ TgA Γ env k b → s.heap.get? b = some o → h'.get? b = some o) → (∀ b o, ¬ M b → s.heap.get? b = some o → h'.get? b = some o) → (∀ j ds, sget ρ' j = .own ds → sget ρ j = .own ds) → EnvOk Γ env ρ' h' M oa → Q () { s with heap := h', toks := tk }) →
    wpAny (model W.prog W.w) A (assign tg env v) Q E s
noncomputable def uname (i : Nat) (d : D) (ρ : List S) : Option (List S) := some (sset ρ i (.fr d))
theorem DenTg.name {k : Nat} (i : Nat) {x : Str} {kd : VK} {p : Pos} (hx : Γ[i]? = some (x, kd) := by rfl) (hk : kd ≠ .no := by decide) (hi : i < k := by decide) : DenTg W Γ G k (.Name x p) (uname i) := fun A env s M ρ oa v d ρ' Q E ok es eo r e q => by
  cases e
  refine wpAny_assign_Name (storeSlot es eo hx hk r fun h' tk c sc mc hs eo' => q h' tk (fun b o nb g => ?_) (fun b o nb g => ?_) (fun j ds e => (sset_own e).2) eo')
  · exact (hs.2 b fun e => nb (e ▸ sc.tgA hx hi)).trans g
  · exact (hs.2 b fun e => nb (e ▸ mc)).trans g

noncomputable def utup : List Nat → List D → List S → Option (List S)
  | [], [], ρ => some ρ
  | i :: is, d :: ds, ρ => utup is ds (sset ρ i (.fr d))
  | _, _, _ => none
noncomputable def utupD (is : List Nat) : D → List S → Option (List S)
  | .tuple ds, ρ => utup is ds ρ
  | _, _ => none
inductive Names (Γ : Lay) (k : Nat) : List Expr → List Nat → Prop
  | nil : Names Γ k [] []
  | cons (i : Nat) {x : Str} {kd : VK} {p : Pos} {es : List Expr} {is : List Nat} : Γ[i]? = some (x, kd) → kd ≠ .no → i < k → Names Γ k es is → Names Γ k (.Name x p :: es) (i :: is)
theorem Names.each {k : Nat} {env : Env} {es : List Expr} {is : List Nat} (N : Names Γ k es is) : (assignEach es env).length = es.length ∧ (assignEach es env).findIdx? (·.1) = none ∧ (assignEach es env).map (·.2) = es.map fun e => assign e env := by
  induction N with
  | nil => exact ⟨rfl, rfl, rfl⟩
  | cons i h1 h2 h3 N ih =>
    rename_i x kd p es is
    have e : assignEach (.Name x p :: es) env = (false, assign (.Name x p) env) :: assignEach es env := rfl
    rw [e]
    refine ⟨by simp [ih.1], ?_, by simp [ih.2.2]⟩
    rw [List.findIdx?_cons]
    simp [ih.2.1]
theorem Names.len {k : Nat} {es : List Expr} {is : List Nat} (N : Names Γ k es is) : es.length = is.length := by
  induction N with
  | nil => rfl
  | cons i h1 h2 h3 N ih => simp [ih]
theorem utup_len {is : List Nat} : ∀ {ds : List D} {ρ ρ' : List S}, utup is ds ρ = some ρ' → is.length = ds.length := by
  induction is with
  | nil => intro ds ρ ρ' e; cases ds with | nil => rfl | cons _ _ => cases e
  | cons i is ih => intro ds ρ ρ' e; cases ds with | nil => cases e | cons d ds => simp [ih e]
theorem assignNames {k : Nat} {es : List Expr} {is : List Nat} (N : Names Γ k es is) : ∀ {A : Around} {env : Env} {s : Shared} {M : Addr → Prop} {ρ ρ' : List S} {oa : Nat → Addr} {vs : List Value} {ds : List D} {Q : Unit → Shared → Prop} {E : Value → Shared → Prop},
    EnvS Γ G env → EnvOk Γ env ρ s.heap M oa → RelAll s.heap M vs ds → utup is ds ρ = some ρ' →
    (∀ h' tk, (∀ b o, ¬ TgA Γ env k b → s.heap.get? b = some o → h'.get? b = some o) → (∀ b o, ¬ M b → s.heap.get? b = some o → h'.get? b = some o) → (∀ j ds, sget ρ' j = .own ds → sget ρ j = .own ds) → EnvOk Γ env ρ' h' M oa → Q () { s with heap := h', toks := tk }) →
    wpAny (model W.prog W.w) A (assignInOrder (es.map fun e => assign e env) vs) Q E s := by
  induction N with
  | nil =>
    intro A env s M ρ ρ' oa vs ds Q E es eo r e q
    cases ds with
    | cons _ _ => cases e
    | nil => cases e; exact wpAny_pure (q s.heap s.toks (fun _ _ _ g => g) (fun _ _ _ g => g) (fun _ _ e => e) eo)
  | cons i h1 h2 h3 N ih =>
    rename_i x kd p esx is
    intro A env s M ρ ρ' oa vs ds Q E es eo r e q
    cases ds with
    | nil => cases e
    | cons d ds =>
      cases r with
      | cons x1 r =>
        rename_i v vs
        show wpAny _ _ (do holding vs (assign (.Name x p) env v); assignInOrder (esx.map fun e => assign e env) vs) _ _ _
        refine wpAny_bind (wpAny_holding (wpAny_assign_Name (storeSlot es eo h1 h2 x1 fun h' tk c sc mc hs eo' => ?_)))
        have tr : RelAll h' M vs ds := r.to fun b o m g _ => ⟨m, (hs.2 b fun e => m (e ▸ mc)).trans g⟩
        refine ih es eo' tr e fun h2 tk2 k1 k2 k3 eo2 => q h2 tk2 (fun b o nb g => k1 b o nb ?_) (fun b o nb g => k2 b o nb ?_) (fun j ds e => (sset_own (k3 j ds e)).2) eo2
        · exact (hs.2 b fun e => nb (e ▸ sc.tgA h1 h3)).trans g
        · exact (hs.2 b fun e => nb (e ▸ mc)).trans g
theorem extBut_size {h h' : Heap} (k : Heap.ExtBut h.objs.size h h') : Keep h h' := fun b o e => k b o (Nat.ne_of_lt (Heap.lt_size e)) e
theorem DenTg.tup {k : Nat} {es : List Expr} {is : List Nat} {x1 : Nat} {p : Pos} (N : Names Γ k es is) : DenTg W Γ G k (.Tuple es x1 p) (utupD is) := fun A env s M ρ oa v d ρ' Q E ok ess eo r e q => by
  unfold utupD at e
  split at e
  · rename_i ds
    cases r with
    | tup m g rr =>
      rename_i a vs kk
      obtain ⟨n1, n2, n3⟩ := N.each (env := env)
      have hl : es.length = vs.length := by rw [N.len, utup_len e, rr.length]
      refine wpAny_assign_Tuple ok.hd (isTup_of g) (by rw [n1, hl]; simp) n2 fun h1 k1 => ?_
      have kk1 : Keep s.heap h1 := extBut_size k1
      rw [n3]
      refine assignNames N ess (EnvOk.keep kk1 eo) (by simpa using rr.keep kk1) e fun h2 tk2 c1 c2 c3 eo2 => q h2 tk2 (fun b o nb g => c1 b o nb (kk1 b o g)) (fun b o nb g => c2 b o nb (kk1 b o g)) c3 eo2
  · cases e
end
end Gos
end

section
open PySem PySem.W PyProof.Rows
namespace Gos
open PySem

structure CompS (Γ : Lay) (G : List Str) (sc : Scope) (tl : Nat) (Γ' : Lay) (G' : List Str) : Prop where
  kind : sc.kind = .function
  names : ∀ x ∈ sc.names, sc.names.lookup x.1 = some x.2
  free : ∀ x ∈ sc.names, x.2 = .free → ∃ i : Nat, Γ[i]? = some (x.1, VK.cel)
  loc : ∀ (i : Nat) x, Γ'[i]? = some (x, VK.loc) → sc.names.lookup x = some .local ∧ i < tl
  cel : ∀ (i : Nat) x, Γ'[i]? = some (x, VK.cel) → (i < tl ∧ sc.names.lookup x = some .cell) ∨ (tl ≤ i ∧ sc.names.lookup x = some .free ∧ Γ[i - tl]? = some (x, VK.cel))
  gl : ∀ x ∈ G', sc.names.lookup x = some .globalImplicit
  nd : ∀ (i : Nat) x k, Γ'[i]? = some (x, k) → (x == ("__debug__" : Str)) = false
  ndG : ∀ x ∈ G', (x == ("__debug__" : Str)) = false
  one : ∀ (i j : Nat) x k k', Γ'[i]? = some (x, k) → Γ'[j]? = some (x, k') → k ≠ VK.no → k' ≠ VK.no → i = j

noncomputable def clOf (cells : List (Str × Addr)) : List (Str × NameKind) → List (Str × Addr) → List (Str × Addr)
  | [], acc => acc
  | (n, k) :: r, acc => if k == .free then (match cells.lookup n with | some c => clOf cells r ((n, c) :: acc) | none => clOf cells r acc) else clOf cells r acc

theorem clOf_lookup {cells : List (Str × Addr)} {x : Str} {c : Addr} : ∀ (names : List (Str × NameKind)) (acc : List (Str × Addr)), (clOf cells names acc).lookup x = some c → acc.lookup x = some c ∨ (cells.lookup x = some c ∧ (x, NameKind.free) ∈ names)
  | [], acc, h => .inl h
  | (n, k) :: r, acc, h => by
    unfold clOf at h
    split at h
    · rename_i hk
      have hk : k = .free := by simpa using hk
      subst hk
      split at h
      · rename_i c' hc
        rcases clOf_lookup r _ h with h | h
        · rw [List.lookup_cons] at h
          split at h
          · rename_i e
            cases h
            have e := beq_iff_eq.mp e
            subst e
            exact .inr ⟨hc, .head _⟩
          · exact .inl h
        · exact .inr ⟨h.1, .tail _ h.2⟩
      · rcases clOf_lookup r _ h with h | h
        · exact .inl h
        · exact .inr ⟨h.1, .tail _ h.2⟩
    · rcases clOf_lookup r _ h with h | h
      · exact .inl h
      · exact .inr ⟨h.1, .tail _ h.2⟩
theorem clOf_has {cells : List (Str × Addr)} {x : Str} {c : Addr} (hc : cells.lookup x = some c) : ∀ (names : List (Str × NameKind)) (acc : List (Str × Addr)), ((x, .free) ∈ names ∨ acc.lookup x = some c) → (∀ c', acc.lookup x = some c' → c' = c) → (clOf cells names acc).lookup x = some c
  | [], acc, h, _ => by rcases h with h | h; · cases h
                        · exact h
  | (n, k) :: r, acc, h, hu => by
    unfold clOf
    by_cases hf : (k == NameKind.free) = true
    · rw [if_pos hf]
      cases hcn : cells.lookup n with
      | none =>
        refine clOf_has hc r acc ?_ hu
        rcases h with h | h
        · rcases List.mem_cons.mp h with e | h
          · cases e; rw [hc] at hcn; cases hcn
          · exact .inl h
        · exact .inr h
      | some c' =>
        refine clOf_has hc r ((n, c') :: acc) ?_ fun c'' h'' => ?_
        · by_cases e : x = n
          · subst e; rw [hc] at hcn; cases hcn; exact .inr (by simp)
          · rcases h with h | h
            · rcases List.mem_cons.mp h with e' | h
              · cases e'; exact absurd rfl e
              · exact .inl h
            · have hxn : (x == n) = false := by simpa using e
              exact .inr (by rw [List.lookup_cons, hxn]; exact h)
        · rw [List.lookup_cons] at h''
          split at h''
          · rename_i e
            cases h''
            rw [← beq_iff_eq.mp e, hc] at hcn
            cases hcn; rfl
          · exact hu _ h''
    · rw [if_neg hf]
      refine clOf_has hc r acc ?_ hu
      rcases h with h | h
      · rcases List.mem_cons.mp h with e' | h
        · cases e'; exact absurd rfl hf
        · exact .inl h
      · exact .inr h
theorem closureFor_eq {scope : Scope} {env : Env} (hf : ∀ x ∈ scope.names, x.2 = .free → ∃ c, env.cells.lookup x.1 = some c) : closureFor scope env = pure (clOf env.cells scope.names []) := by
  have key : ∀ (names : List (Str × NameKind)) (acc : List (Str × Addr)), (∀ x ∈ names, x.2 = .free → ∃ c, env.cells.lookup x.1 = some c) →
      (forIn names acc fun (x : Str × NameKind) (cs : List (Str × Addr)) => (match x with | (name, kind) => if kind == .free then (do let __do_lift ← cellOf env name; pure (ForInStep.yield ((name, __do_lift) :: cs))) else pure (ForInStep.yield cs) : Sem (ForInStep (List (Str × Addr))))) = pure (clOf env.cells names acc) := by
    intro names
    induction names with
    | nil => intro acc _; rfl
    | cons y r ih =>
      intro acc h
      obtain ⟨n, k⟩ := y
      rw [List.forIn_cons]
      unfold clOf
      by_cases hk : (k == NameKind.free) = true
      · obtain ⟨c, hc⟩ := h (n, k) (.head _) (by simpa using hk)
        simp only [hk, if_true, hc]
        have : cellOf env n = pure c := by unfold cellOf; rw [hc]
        rw [this]
        exact ih _ fun x hx => h x (.tail _ hx)
      · simp only [hk, if_false]
        exact ih _ fun x hx => h x (.tail _ hx)
  unfold closureFor
  have := key scope.names [] hf
  exact (congrArg (fun t => t >>= fun cs => (pure cs : Sem (List (Str × Addr)))) this)

theorem cellsFrom_append : ∀ (names : List (Str × NameKind)) (n : Nat) (acc : List (Str × Addr)), cellsFrom n names acc = cellsFrom n names [] ++ acc
  | [], _, _ => rfl
  | (x, k) :: r, n, acc => by
    unfold cellsFrom
    split
    · rw [cellsFrom_append r (n + 1) ((x, n) :: acc), cellsFrom_append r (n + 1) [(x, n)], List.append_assoc]; rfl
    · exact cellsFrom_append r n acc
theorem cellsFrom_mem {x : Str} {c : Addr} : ∀ (names : List (Str × NameKind)) (n : Nat) (acc : List (Str × Addr)), (x, c) ∈ cellsFrom n names acc → (x, c) ∈ acc ∨ (x, NameKind.cell) ∈ names
  | [], _, _, h => .inl h
  | (y, k) :: r, n, acc, h => by
    unfold cellsFrom at h
    split at h
    · rename_i hk
      rcases cellsFrom_mem r (n + 1) _ h with h | h
      · rcases List.mem_cons.mp h with e | h
        · cases e
          have : k = .cell := by simpa using hk
          subst this
          exact .inr (.head _)
        · exact .inl h
      · exact .inr (.tail _ h)
    · rcases cellsFrom_mem r n _ h with h | h
      · exact .inl h
      · exact .inr (.tail _ h)

theorem lookup_append {α : Type} {x : Str} : ∀ (a b : List (Str × α)), (a ++ b).lookup x = match a.lookup x with | some v => some v | none => b.lookup x
  | [], _ => rfl
  | (y, v) :: r, b => by
    rw [List.cons_append, List.lookup_cons, List.lookup_cons]
    cases h : x == y with
    | true => rfl
    | false => exact lookup_append r b

theorem relabel_lookup {env : Env} {x : Str} : ∀ (names : List (Str × NameKind)), (names.map fun (n, k) => if (k == NameKind.free && env.scope.kind == .function && env.kindOf n == some .cell) then (n, NameKind.cell) else (n, k)).lookup x =
    (names.lookup x).map fun k => if (k == NameKind.free && env.scope.kind == .function && env.kindOf x == some .cell) then NameKind.cell else k
  | [] => rfl
  | (n, k) :: r => by
    have ih := relabel_lookup (env := env) (x := x) r
    show List.lookup x ((if (k == NameKind.free && env.scope.kind == .function && env.kindOf n == some .cell) = true then (n, NameKind.cell) else (n, k)) :: _) = _
    cases hx : x == n with
    | true =>
      have e : x = n := beq_iff_eq.mp hx
      subst e
      by_cases hc : (k == NameKind.free && env.scope.kind == .function && env.kindOf x == some .cell) = true
      · rw [if_pos hc, List.lookup_cons, List.lookup_cons, beq_self_eq_true]
        show some _ = some _
        dsimp only
        rw [if_pos hc]
      · rw [if_neg hc, List.lookup_cons, List.lookup_cons, beq_self_eq_true]
        show some _ = some _
        dsimp only
        rw [if_neg hc]
    | false =>
      by_cases hc : (k == NameKind.free && env.scope.kind == .function && env.kindOf n == some .cell) = true
      · rw [if_pos hc, List.lookup_cons, List.lookup_cons, hx]; exact ih
      · rw [if_neg hc, List.lookup_cons, List.lookup_cons, hx]; exact ih

noncomputable def unbs : Nat → List S → List S
  | 0, ρ => ρ
  | n + 1, ρ => .unb :: unbs n ρ
theorem sget_unbs_lt : ∀ {n i : Nat} {ρ : List S}, i < n → sget (unbs n ρ) i = .unb
  | 0, _, _, h => absurd h (Nat.not_lt_zero _)
  | _ + 1, 0, _, _ => rfl
  | n + 1, i + 1, ρ, h => sget_unbs_lt (n := n) (i := i) (ρ := ρ) (Nat.lt_of_succ_lt_succ h)
theorem sget_unbs_ge : ∀ {n i : Nat} {ρ : List S}, n ≤ i → sget (unbs n ρ) i = sget ρ (i - n)
  | 0, _, _, _ => rfl
  | n + 1, 0, _, h => absurd h (Nat.not_succ_le_zero _)
  | n + 1, i + 1, ρ, h => by
    have := sget_unbs_ge (n := n) (i := i) (ρ := ρ) (Nat.le_of_succ_le_succ h)
    rw [show i + 1 - (n + 1) = i - n by omega]
    exact this

theorem SV.widen {h h' : Heap} {M M' : Addr → Prop} {a : Addr} {σ : S} {ov : Option Value} (k : Keep h h') (sub : ∀ b, M b → M' b) (new : ∀ b, M' b → M b ∨ h.get? b = none) (x : SV h M a σ ov) : SV h' M' a σ ov :=
  x.to ((Trees.more new).trans (Trees.keep k)) fun p e => by subst e; exact ⟨sub _ x.2.1, fun o g => k a o g⟩

section
variable {W : Gl} {n : Nat} {Γ : Lay} {G : List Str}

/-- the frame of a comprehension -/
theorem compEnv_ok {A : Around} {env : Env} {s : Shared} {M : Addr → Prop} {ρ : List S} {oa : Nat → Addr} {sc : Scope} {tl : Nat} {Γ' : Lay} {G' : List Str} {h1 : Heap} {tk : Nat} {Q : Env → Shared → Prop} {E : Value → Shared → Prop}
    (P : Pre W n Γ G A env s M ρ oa) (cs : CompS Γ G sc tl Γ' G') (k1 : Keep s.heap h1) (D : Addr) (hD : h1.get? D ≠ none) (hDo : s.heap.get? D = none) (hDm : ∀ b, M b → b ≠ D)
    (q : ∀ cenv h' M', Keep h1 h' → (∀ b, M b → M' b) → (∀ b, M' b → M b ∨ b = D ∨ h1.get? b = none) → M' D → (∀ b, TgA Γ' { cenv with scope := relabel sc env } tl b → h1.get? b = none) →
      EnvS Γ' G' { cenv with scope := relabel sc env } → EnvOk Γ' { cenv with scope := relabel sc env } (unbs tl ρ) h' M' (fun i => oa (i - tl)) → Q cenv { s with heap := h', toks := tk }) :
    wpAny (model W.prog W.w) A (newFunctionEnv sc env.globals (clOf env.cells sc.names []) [] env.qual none .none (some env)) Q E { s with heap := h1, toks := tk } := by
  have eo1 := P.env.keep k1
  simp only [newFunctionEnv, Option.isSome_some, if_true]
  refine wpAny_bind (wpAny_alloc ?_)
  refine wpAny_bind (wpAny_layCells _ (fun name kind cells => by cases hkc : kind == NameKind.cell <;> simp [hkc]) _ _ _ _ ?_)
  refine wpAny_bind ?_
  show wpAny _ _ (forIn ([] : List (Str × Value)) PUnit.unit _) _ _ _
  rw [List.forIn_nil]
  refine wpAny_pure (wpAny_pure ?_)
  have hz : (h1.push { cls := .type "dict", data := .dict #[] }).objs.size = h1.objs.size + 1 := Heap.size_push ..
  have ok := cellsFrom_ok sc.names (h1.push { cls := .type "dict", data := .dict #[] }) (h1.objs.size + 1) [] ⟨fun _ _ hm => (nomatch hm), List.Pairwise.nil⟩ (by rw [hz]; exact Nat.le_refl _)
  rw [hz] at ok
  rw [show ({ ({ s with heap := h1, toks := tk } : Shared) with heap := (h1.push { cls := .type "dict", data := .dict #[] }) } : Shared).heap.objs.size = h1.objs.size + 1 from hz]
  rw [cellsFrom_append]
  generalize hnew : cellsFrom (h1.objs.size + 1) sc.names [] = new at ok ⊢
  generalize hh3 : pushCells (h1.push { cls := .type "dict", data := .dict #[] }) sc.names = h3 at ok ⊢
  have k3 : Keep h1 h3 := fun b o e => hh3 ▸ pushCells_keeps _ _ b o (Heap.get?_push_of_some _ e)
  have hC : h1.get? h1.objs.size = none := get_size h1
  have hns : h3.Ns h1.objs.size fun _ => none := hh3 ▸ (Heap.Ns.new h1 (.type "dict")).keeps (pushCells_keeps _ _)
  have hnewNone : ∀ {x : Str} {c : Addr}, new.lookup x = some c → h1.get? c = none := fun {x c} e => by
    have hlo := (ok.empty _ _ (mem_of_lookup e)).2
    cases g : h1.get? c with
    | none => rfl
    | some o => exact absurd (Heap.lt_size g) (Nat.not_lt.mpr (Nat.le_of_succ_le hlo))
  have hnotnew : ∀ {x : Str}, sc.names.lookup x ≠ some .cell → new.lookup x = none := fun {x} hx => by
    cases e : new.lookup x with
    | none => rfl
    | some c =>
      have := mem_of_lookup e
      rw [← hnew] at this
      rcases cellsFrom_mem _ _ _ this with h | h
      · cases h
      · exact absurd (cs.names _ h) hx
  have hfree : ∀ {x : Str}, sc.names.lookup x = some .free → ∀ {c : Addr}, env.cells.lookup x = some c → (new ++ clOf env.cells sc.names []).lookup x = some c := fun {x} hx {c} hc => by
    rw [lookup_append, hnotnew (by rw [hx]; decide)]
    exact clOf_has hc _ _ (.inl (mem_of_lookup hx)) (fun _ h => by cases h)
  have hcell : ∀ {x : Str}, sc.names.lookup x = some .cell → ∃ c, new.lookup x = some c ∧ (new ++ clOf env.cells sc.names []).lookup x = some c := fun {x} hx => by
    have : (new.lookup x).isSome = true := by rw [← hnew]; exact cellsFrom_some _ _ _ (.inl hx)
    obtain ⟨c, hc⟩ := Option.isSome_iff_exists.mp this
    exact ⟨c, hc, by rw [lookup_append, hc]⟩
  have hold : ∀ {x : Str} {c : Addr}, (clOf env.cells sc.names []).lookup x = some c → ∃ ov, h1.IsCell c ov := fun {x c} e => by
    rcases clOf_lookup _ _ e with h | ⟨h, hm⟩
    · cases h
    · obtain ⟨i, hi⟩ := cs.free _ hm rfl
      obtain ⟨c', ov, g1, g2, _⟩ := eo1.cel _ _ hi
      rw [h] at g1; cases g1
      exact ⟨ov, g2⟩
  refine q _ h3 (fun b => M b ∨ b = D ∨ b = h1.objs.size ∨ ∃ x, new.lookup x = some b) k3 (fun b hb => .inl hb) (fun b hb => ?_) (.inr (.inl rfl)) (fun b hb => ?_) ⟨cs.kind, P.es.glob, P.es.blt, fun i x hi => ?_, fun i x hi => ?_, fun x hx => ?_, fun x y c hx hy => ?_, cs.nd, cs.ndG, cs.one⟩ ⟨?_, .inr (.inr (.inl rfl)), fun b hb => ?_, fun i x hi => ?_, fun i x hi => ?_, fun i j ds es hi hj e => ?_, fun i ds hi => ?_, fun i ds hi e => ?_⟩
  · rcases hb with hb | rfl | rfl | ⟨x, hb⟩
    · exact .inl hb
    · exact .inr (.inl rfl)
    · exact .inr (.inr hC)
    · exact .inr (.inr (hnewNone hb))
  · rcases hb with rfl | ⟨i, x, hi, hx, hc⟩
    · exact hC
    · rcases cs.cel i x hx with ⟨_, h⟩ | ⟨h, _⟩
      · obtain ⟨c, h1', h2'⟩ := hcell h
        have : (new ++ clOf env.cells sc.names []).lookup x = some b := hc
        rw [h2'] at this; cases this
        exact hnewNone h1'
      · exact absurd hi (Nat.not_lt.mpr h)
  · show (relabel sc env).names.lookup x = some .local
    unfold relabel; rw [relabel_lookup, (cs.loc i x hi).1]; rfl
  · show (relabel sc env).names.lookup x = some .cell
    unfold relabel; rw [relabel_lookup]
    rcases cs.cel i x hi with ⟨_, h⟩ | ⟨_, h, hΓ⟩
    · rw [h]; rfl
    · rw [h, P.es.kind, P.es.cel _ _ hΓ]; rfl
  · show (relabel sc env).names.lookup x = some .globalImplicit
    unfold relabel; rw [relabel_lookup, cs.gl x hx]; rfl
  · have hx' : (new ++ clOf env.cells sc.names []).lookup x = some c := hx
    have hy' : (new ++ clOf env.cells sc.names []).lookup y = some c := hy
    rw [lookup_append] at hx' hy'
    cases ex : new.lookup x with
    | some c1 =>
      rw [ex] at hx'; cases hx'
      cases ey : new.lookup y with
      | some c2 => rw [ey] at hy'; cases hy'; exact name_of_addr ok.apart (mem_of_lookup ex) (mem_of_lookup ey)
      | none =>
        rw [ey] at hy'
        obtain ⟨ov, hi⟩ := hold hy'
        obtain ⟨o, g, _⟩ := hi
        rw [hnewNone ex] at g; cases g
    | none =>
      rw [ex] at hx'
      cases ey : new.lookup y with
      | some c2 =>
        rw [ey] at hy'; cases hy'
        obtain ⟨ov, hi⟩ := hold hx'
        obtain ⟨o, g, _⟩ := hi
        rw [hnewNone ey] at g; cases g
      | none =>
        rw [ey] at hy'
        rcases clOf_lookup _ _ hx' with h | h
        · cases h
        · rcases clOf_lookup _ _ hy' with h' | h'
          · cases h'
          · exact P.es.apart x y c h.1 h'.1
  · have := hns.eq_nsMap
    exact this ▸ hns
  · rcases hb with hb | rfl | rfl | ⟨x, hb⟩
    · have := eo1.dom b hb
      cases g : h1.get? b with
      | none => exact absurd g this
      | some o => rw [k3 b o g]; simp
    · cases g : h1.get? b with
      | none => exact absurd g hD
      | some o => rw [k3 b o g]; simp
    · obtain ⟨o, _, _, g, _⟩ := hns; exact dom_some g
    · obtain ⟨o, g, _⟩ := (ok.empty _ _ (mem_of_lookup hb)).1; exact dom_some g
  · rw [sget_unbs_lt (cs.loc i x hi).2]; trivial
  · rcases cs.cel i x hi with ⟨hlt, h⟩ | ⟨hge, h, hΓ⟩
    · obtain ⟨c, h1', h2'⟩ := hcell h
      exact ⟨c, none, h2', (ok.empty _ _ (mem_of_lookup h1')).1, .inr (.inr (.inr ⟨x, h1'⟩)), by rw [sget_unbs_lt hlt]; trivial⟩
    · obtain ⟨c, ov, g1, g2, g3, g4⟩ := eo1.cel _ _ hΓ
      refine ⟨c, ov, hfree h g1, g2.keeps k3, .inl g3, ?_⟩
      rw [sget_unbs_ge hge]
      obtain ⟨c', ov', f1, f2, f3, f4⟩ := P.env.cel _ _ hΓ
      rw [g1] at f1; cases f1
      obtain ⟨o1, q1, q2⟩ := g2
      obtain ⟨o2, p1, p2⟩ := f2
      rw [k1 _ _ p1] at q1; cases q1
      rw [p2] at q2; cases q2
      refine f4.widen (k1.trans k3) (fun b hb => .inl hb) fun b hb => ?_
      have back : h1.get? b = none → s.heap.get? b = none := fun e => by
        cases g : s.heap.get? b with
        | none => rfl
        | some o => rw [k1 _ _ g] at e; cases e
      rcases hb with hb | rfl | rfl | ⟨x, hb⟩
      · exact .inl hb
      · exact .inr hDo
      · exact .inr (back hC)
      · exact .inr (back (hnewNone hb))
  · by_cases hi' : i < tl
    · rw [sget_unbs_lt hi'] at hi; cases hi
    · by_cases hj' : j < tl
      · rw [sget_unbs_lt hj'] at hj; cases hj
      · rw [sget_unbs_ge (Nat.not_lt.mp hi')] at hi
        rw [sget_unbs_ge (Nat.not_lt.mp hj')] at hj
        have := P.env.apart _ _ ds es hi hj e
        omega
  · by_cases hi' : i < tl
    · rw [sget_unbs_lt hi'] at hi; cases hi
    · rw [sget_unbs_ge (Nat.not_lt.mp hi')] at hi
      exact .inl (P.env.own _ ds hi)
  · by_cases hi' : i < tl
    · rw [sget_unbs_lt hi'] at hi; cases hi
    · rw [sget_unbs_ge (Nat.not_lt.mp hi')] at hi
      have e' : h1.objs.size = oa (i - tl) := e
      exact eo1.dom _ (eo1.own _ ds hi) (e' ▸ hC)

theorem EnvOk.keepI {Γ : Lay} {env : Env} {ρ : List S} {h h' : Heap} {M own : Addr → Prop} {oa : Nat → Addr} (eo : EnvOk Γ env ρ h M oa) (k : KeepI own h h') (hd : ∀ b, own b → ¬ M b) : EnvOk Γ env ρ h' M oa :=
  eo.move (fun b o m g => k.keep b o (fun x => hd b x m) g) fun b o m g c => ⟨m, k.tree b o g c⟩
theorem ItOk.step {A : Around} {tg : Expr} {own : Addr → Prop} {it : Value} {ds : List D} {h h' : Heap} {M M' : Addr → Prop} (x : ItOk W A tg own it ds h M) (st : Step M h M' h') : ItOk W A tg own it ds h' M' := by
  cases ds with
  | nil => exact fun h1 M1 st1 dm s Q E hs q => x h1 M1 (st.trans st1) dm s Q E hs q
  | cons d ds => exact fun h1 M1 st1 dm s Q E hs q => x h1 M1 (st.trans st1) dm s Q E hs q
theorem ItSelf.step {A : Around} {it : Value} {h h' : Heap} {M M' : Addr → Prop} (x : ItSelf W A it h M) (st : Step M h M' h') : ItSelf W A it h' M' := fun h1 M1 st1 s Q E hs q => x h1 M1 (st.trans st1) s Q E hs q

theorem codeAny_compLoop_gen {A : Around} {R : Result → Shared → Prop} {s : Shared} {elt target iter : Expr} {ifs : List Expr} {scope : Scope} {pos : Pos} {it acc : Value} {env : Env} (I : Nat → Shared → Prop)
    (turn : ∀ n s E', I n s → Nxt W A target it s (fun r s₁ => match r with
      | none => R (.ok .next) s₁
      | some v => wpAny (model W.prog W.w) A (assign target env v) (fun _ s₂ =>
          wpAny (model W.prog W.w) A (forIn ifs true fun c r => if r = true then do let ok ← isTrue c env (eval c env); pure (ForInStep.yield ok) else pure (ForInStep.yield r)) (fun ok s₃ =>
            if ok = true then wpAny (model W.prog W.w) A (eval elt env) (fun x s₄ =>
              wpAny (model W.prog W.w) A (call (.builtin "list.append") [acc, x]) (fun _ s₅ => ∃ m, m < n ∧ I m s₅) E' s₄) E' s₃
            else ∃ m, m < n ∧ I m s₃) E' s₂) E' s₁) E')
    (n : Nat) (h : I n s) :
    codeAny (model W.prog W.w) A (.compLoop (.ListComp elt [⟨target, iter, ifs, 0⟩] scope pos) 0 it acc env) R s := by
  refine codeAny_loop rfl I (fun n s hI => ?_) n h
  show wpAny _ A ((compTurn (.ListComp elt [⟨target, iter, ifs, 0⟩] scope pos) 0 it acc env).onRaise (fun x => do noteFrame x env; theTreesLotGoes x)) _ _ s
  refine wpAny_noted ?_
  rw [compTurn_list]
  refine wpAny_bind (wpAny_standAt (wpAny_bind (wpAny_mono (turn n s _ hI) (fun r s₁ h₁ => ?_) fun _ _ h' => h')))
  cases r with
  | none => exact wpAny_pure h₁
  | some v =>
    refine wpAny_bind (wpAny_mono h₁ (fun _ s₂ h₂ => ?_) fun _ _ h' => h')
    refine wpAny_bind (wpAny_mono h₂ (fun _ s₃ h₃ => wpAny_bind (wpAny_mono h₃ (fun ok s₄ h₄ => ?_) fun _ _ h' => h')) fun _ _ h' => h')
    cases ok with
    | false => exact wpAny_pure ⟨rfl, h₄⟩
    | true => exact wpAny_bind (wpAny_bind (wpAny_mono h₄ (fun x s₅ h₅ => wpAny_bind (wpAny_mono h₅ (fun _ s₆ h₆ => wpAny_pure (wpAny_pure ⟨rfl, h₆⟩)) fun _ _ h' => h')) fun _ _ h' => h'))

noncomputable def DenIfs (W : Gl) (n : Nat) (Γ : Lay) (G : List Str) (ifs : List Expr) (t : List S → Option Bool) : Prop :=
  ∀ A env s M ρ oa d Q E, Pre W n Γ G A env s M ρ oa → t ρ = some d → PostB s d Q →
    wpAny (model W.prog W.w) A (forIn ifs true fun c r => if r = true then do let ok ← isTrue c env (eval c env); pure (ForInStep.yield ok) else pure (ForInStep.yield r)) Q E s
theorem DenIfs.nil : DenIfs W n Γ G [] (fun _ => some true) := fun A env s M ρ oa d Q E P e q => by
  cases e
  exact wpAny_tests_nil (q s.heap s.toks (.refl _))
theorem DenIfs.one {c : Expr} {t : List S → Option Bool} (ht : DenT W n Γ G c t) : DenIfs W n Γ G [c] t := fun A env s M ρ oa d Q E P e q => wpAny_tests_one (ht A env s M ρ oa d Q E P e q)

noncomputable def compL (u : D → List S → Option (List S)) (t : List S → Option Bool) (g : List S → Option D) : List D → List S → Option (List D)
  | [], _ => some []
  | d :: ds, ρ => bind1 (fun ρ1 => match t ρ1 with
      | some true => bind2 consD (g ρ1) (compL u t g ds ρ1)
      | some false => compL u t g ds ρ1
      | none => none) (u d ρ)
noncomputable def notSet : Expr → Bool
  | .Set .. => false
  | _ => true
theorem folded_notSet {e : Expr} {env : Env} (h : notSet e = true) (x : Value) : foldedSetIterable e env x = pure x := by
  cases e <;> first | rfl | cases h

/-- the body of a comprehension with one clause -/
theorem comp_run {A : Around} {env : Env} {s : Shared} {M : Addr → Prop} {ρ : List S} {oa : Nat → Addr} {sc : Scope} {tl : Nat} {Γ' : Lay} {G' : List Str} {tg iter elt : Expr} {ifs : List Expr} {pos : Pos} {u : D → List S → Option (List S)} {t : List S → Option Bool} {g : List S → Option D}
    {fs : List S → Option (List D)} {ds res : List D} {RR : Value → Addr → Result → Shared → Prop} {E : Value → Shared → Prop}
    (P : Pre W n Γ G A env s M ρ oa) (cs : CompS Γ G sc tl Γ' G') (hi : DenI W n Γ G tg iter fs) (hu : DenTg W Γ' G' tl tg u) (ht : DenIfs W n Γ' G' ifs t) (hg : DenE W n Γ' G' elt g)
    (e1 : fs ρ = some ds) (e2 : compL u t g ds (unbs tl ρ) = some res) (hsm : small res = true)
    (hRR : ∀ a C vs k m h' tk, Keep s.heap h' → s.heap.get? a = none → s.heap.get? C = none → a ≠ C → h'.Ns C m → h'.get? a = some (lstO vs k) → RelAll h' (fun b => b = a ∨ b = C ∨ M b) vs res → RR (.ref a) C (.ok .next) { s with heap := h', toks := tk }) :
    wpAny (model W.prog W.w) A (eval iter env) (fun x s₁ => wpAny (model W.prog W.w) A (pyIter x) (fun it s₂ => wpAny (model W.prog W.w) A (newList []) (fun acc s₃ =>
      wpAny (model W.prog W.w) A (newFunctionEnv sc env.globals (clOf env.cells sc.names []) [] env.qual none .none (some env)) (fun cenv s₄ =>
        codeAny (model W.prog W.w) A (.compStart (.ListComp elt [⟨tg, iter, ifs, 0⟩] sc pos) 0 it acc { cenv with scope := relabel sc env }) (RR acc cenv.locals) s₄) E s₃) E s₂) E s₁) E s := by
  refine hi A env s M ρ oa ds _ E P e1 fun it own hA tkA kA ho1 ho2 hit hself => ?_
  refine wpAny_newObj_type ?_
  have hD := get_size hA
  have kB : Keep hA (hA.push (lstO [] 0)) := Keep.push _ _
  have gD : (hA.push (lstO [] 0)).get? hA.objs.size = some (lstO [] 0) := Heap.get?_push_size _ rfl
  have back : ∀ {b : Addr}, hA.get? b = none → s.heap.get? b = none := fun {b} e => by
    cases q : s.heap.get? b with
    | none => rfl
    | some o => rw [kA _ _ q] at e; cases e
  have domM : ∀ b, M b → hA.get? b ≠ none := (P.env.keep kA).dom
  refine compEnv_ok (s := s) P cs (kA.trans kB) hA.objs.size (dom_some gD) (back hD) (fun b hb e => domM b hb (e ▸ hD)) fun cenv h3 M' k3 sub new mD tgn es eo => ?_
  have hCl : ({ cenv with scope := relabel sc env } : Env).locals = cenv.locals := rfl
  have hCn : (hA.push (lstO [] 0)).get? cenv.locals = none := tgn _ (.inl rfl)
  have hDC : hA.objs.size ≠ cenv.locals := fun e => by rw [← e, gD] at hCn; cases hCn
  have hCA : hA.get? cenv.locals = none := by
    cases q : hA.get? cenv.locals with
    | none => rfl
    | some o => rw [kB _ _ q] at hCn; cases hCn
  have own1 : ∀ b, own b → ¬ M' b := fun b hb hm => by
    rcases new b hm with h | h | h
    · have := P.env.dom b h; exact this (ho1 b hb)
    · subst h; exact ho2 _ hb hD
    · have := ho2 b hb
      cases q : hA.get? b with
      | none => exact this q
      | some o => rw [kB _ _ q] at h; cases h
  have nownD : ¬ own hA.objs.size := fun h => ho2 _ h hD
  have st0 : Step M hA M' h3 := ⟨fun b o _ e => k3 b o (kB b o e), fun a ha => by
    rcases new a ha with h | h | h
    · exact .inl h
    · subst h; exact .inr hD
    · refine .inr ?_
      cases q : hA.get? a with
      | none => rfl
      | some o => rw [kB _ _ q] at h; cases h⟩
  have base3 : Keep s.heap h3 := (kA.trans kB).trans k3
  have off' : ∀ a, M' a → W.h₀.get? a = none := fun a ha => by
    rcases st0.new a ha with h | h
    · exact P.off a h
    · have := back h
      cases q : W.h₀.get? a with
      | none => rfl
      | some o => rw [P.base _ _ q] at this; cases this
  have ownS : ∀ j xs, sget (unbs tl ρ) j = .own xs → hA.objs.size ≠ oa (j - tl) := fun j xs hj e => by
    by_cases hlt : j < tl
    · rw [sget_unbs_lt hlt] at hj; cases hj
    · rw [sget_unbs_ge (Nat.not_lt.mp hlt)] at hj
      exact P.env.dom _ (P.env.own _ xs hj) (e ▸ back hD)
  have loop : ∀ s4 : Shared, s4 = { s with heap := h3, toks := tkA } → codeAny (model W.prog W.w) A (.compLoop (.ListComp elt [⟨tg, iter, ifs, 0⟩] sc pos) 0 it (.ref hA.objs.size) { cenv with scope := relabel sc env }) (RR (.ref hA.objs.size) cenv.locals) s4 := by
    rintro s4 rfl
    refine codeAny_compLoop_gen
      (fun k s' => ∃ ds ρc h' tk vs c done rest, s' = { s with heap := h', toks := tk } ∧ k = List.length ds ∧ ItOk W A tg own it ds h' M' ∧ EnvOk Γ' { cenv with scope := relabel sc env } ρc h' M' (fun i => oa (i - tl)) ∧ h'.get? hA.objs.size = some (lstO vs c) ∧
        RelAll h' M' vs done ∧ compL u t g ds ρc = some rest ∧ done ++ rest = res ∧ Keep s.heap h' ∧ (∀ b, own b → h'.get? b ≠ none) ∧ (∀ j xs, sget ρc j = .own xs → sget (unbs tl ρ) j = .own xs)) ?_ ds.length
      ⟨ds, unbs tl ρ, h3, tkA, [], 0, [], res, rfl, rfl, hit.step st0, eo, k3 _ _ gD, .nil, e2, rfl, base3, fun b hb => ?_, fun _ _ e => e⟩
    · rintro k s' E' ⟨ds, ρc, h', tk, vs, c, done, rest, rfl, rfl, hit', eo', gD', hv, hc, hr, kk, hown, ho⟩
      cases ds with
      | nil =>
        cases hc
        rw [List.append_nil] at hr
        subst hr
        refine hit' h' M' (.refl _ _) eo'.dom { s with heap := h', toks := tk } _ E' rfl fun h5 tk5 k5 => ?_
        have gD5 := k5.keep _ _ nownD gD'
        have eo5 := eo'.keepI k5 own1
        refine hRR hA.objs.size cenv.locals vs c _ h5 tk5 (fun b o e => k5.keep b o (fun x => by rw [ho1 b x] at e; cases e) (kk b o e)) (back hD) (back hCA) hDC eo5.ns gD5 ((k5.relAll hv).less fun b hb => ?_)
        rcases hb with rfl | rfl | hb
        · exact mD
        · exact eo.ML
        · exact sub b hb
      | cons d ds =>
        unfold compL at hc
        obtain ⟨ρ1, hu1, hc⟩ := bind1_some hc
        refine hit' h' M' (.refl _ _) eo'.dom { s with heap := h', toks := tk } _ E' rfl fun v h5 tk5 k5 o5 rv it5 => ?_
        have eo5 := eo'.keepI k5 own1
        refine hu A _ _ M' ρc _ v d ρ1 _ E' ⟨P.ok.hd, by have := P.ok.dp; omega, by have := P.ok.un; omega⟩ es eo5 rv hu1 fun h6 tk6 c1 c2 c3 eo6 => ?_
        have old6 : ∀ b o, (hA.push (lstO [] 0)).get? b = some o → ∀ o', h5.get? b = some o' → h6.get? b = some o' := fun b o e o' e' => c1 b o' (fun x => by rw [tgn b x] at e; cases e) e'
        have st6 : Step M' h5 M' h6 := ⟨c2, fun _ x => .inl x⟩
        have gD6 : h6.get? hA.objs.size = some (lstO vs c) := old6 _ _ gD _ (k5.keep _ _ nownD gD')
        have kk6 : Keep s.heap h6 := fun b o e => old6 b o (kB _ _ (kA _ _ e)) o (k5.keep b o (fun x => by rw [ho1 b x] at e; cases e) (kk b o e))
        have own6 : ∀ b, own b → h6.get? b ≠ none := fun b hb => by
          have h1 := ho2 b hb
          cases q : hA.get? b with
          | none => exact absurd q h1
          | some o =>
            cases q' : h5.get? b with
            | none => exact absurd q' (o5 b hb)
            | some o' => rw [old6 b o (kB _ _ q) o' q']; simp
        have hv6 : RelAll h6 M' vs done := st6.relAll (k5.relAll hv)
        have P6 : Pre W n Γ' G' A { cenv with scope := relabel sc env } { s with heap := h6, toks := tk6 } M' ρ1 (fun i => oa (i - tl)) := ⟨P.ok, es, P.base.trans kk6, off', eo6⟩
        cases htt : t ρ1 with
        | none => rw [htt] at hc; cases hc
        | some b =>
          rw [htt] at hc
          refine ht A _ _ M' ρ1 _ b _ E' P6 htt fun h7 tk7 k7 => ?_
          cases b with
          | false =>
            simp only [Bool.false_eq_true, if_false]
            refine ⟨ds.length, Nat.lt_succ_self _, ds, ρ1, h7, tk7, vs, c, done, rest, rfl, rfl, it5.step (st6.trans (.of_keep k7)), eo6.keep k7, k7 _ _ gD6, hv6.keep k7, hc, hr, kk6.trans k7, fun b hb e => ?_, fun j xs e => ho j xs (c3 j xs e)⟩
            cases q : h6.get? b with
            | none => exact own6 b hb q
            | some o => rw [k7 b o q] at e; cases e
          | true =>
            simp only [if_true]
            obtain ⟨y, rest', hg1, hc', e3⟩ := bind2_some hc
            cases e3
            refine hg A _ _ M' ρ1 _ y _ E' (P6.up k7) hg1 fun x h8 tk8 k8 rx => ?_
            have k78 : Keep h6 h8 := k7.trans k8
            have hlen : vs.length ≤ sizeLine := by
              rw [hv.length]
              refine Nat.le_trans ?_ (small_le hsm)
              rw [← hr, List.length_append]; omega
            refine wpAny_list_append_plain (items := vs.toArray) ⟨c, k78 _ _ gD6⟩ (fun h9 hl9 hs9 => ?_) (by simpa using hlen)
            obtain ⟨c9, g9⟩ := hl9
            have g9' : h9.get? hA.objs.size = some (lstO (vs ++ [x]) c9) := by simpa using g9
            have tr : ∀ b o, b ≠ hA.objs.size → h8.get? b = some o → h9.get? b = some o := fun b o nb e => (hs9.2 b nb).trans e
            have eo8 := eo6.keep k78
            refine ⟨ds.length, Nat.lt_succ_self _, ds, ρ1, h9, _, vs ++ [x], c9, done ++ [y], rest', rfl, rfl, it5.step (st6.trans ((Step.of_keep k78).trans ⟨fun b o nb e => tr b o (fun q => nb (q ▸ mD)) e, fun _ x => .inl x⟩)), ?_, g9', ?_, hc', ?_, fun b o e => ?_, fun b hb => ?_, fun j xs e => ho j xs (c3 j xs e)⟩
            · refine eo8.chg hs9 (dom_some g9) mD (fun q => hDC q) (fun i x' c' hx hcc => ?_) fun i xs hi => ownS i xs (ho i xs (c3 i xs hi))
              obtain ⟨c'', ov, q1, q2, _⟩ := eo8.cel i x' hx
              rw [hcc] at q1; cases q1
              exact Ne.symm (cell_ne_list q2 (k78 _ _ gD6))
            · refine RelAll.append ?_ (.cons ?_ .nil)
              · exact (hv6.keep k78).to fun b o m g _ => ⟨m, tr b o (fun q => m (q ▸ mD)) g⟩
              · exact rx.to fun b o m g _ => ⟨m, tr b o (fun q => m (q ▸ mD)) g⟩
            · rw [List.append_assoc]; exact hr
            · refine tr b o (fun q => ?_) (k78 _ _ (kk6 b o e))
              rw [q, back hD] at e; cases e
            · have : b ≠ hA.objs.size := fun q => nownD (q ▸ hb)
              cases q : h6.get? b with
              | none => exact absurd q (own6 b hb)
              | some o => rw [tr b o this (k78 _ _ q)]; simp
    · have := ho2 b hb
      cases q : hA.get? b with
      | none => exact absurd q this
      | some o => rw [k3 _ _ (kB _ _ q)]; simp
  refine codeAny_compStart_list (loop _ rfl) ?_
  exact hself h3 M' st0 _ _ _ rfl (loop _ rfl)

theorem DenF.comp {tg iter elt : Expr} {ifs : List Expr} {sc : Scope} {tl : Nat} {Γ' : Lay} {G' : List Str} {pos : Pos} {u : D → List S → Option (List S)} {t : List S → Option Bool} {g : List S → Option D} {fs : List S → Option (List D)}
    (cs : CompS Γ G sc tl Γ' G') (hi : DenI W n Γ G tg iter fs) (hu : DenTg W Γ' G' tl tg u) (ht : DenIfs W n Γ' G' ifs t) (hg : DenE W n Γ' G' elt g) (hs : notSet iter = true := by rfl) :
    DenF W n Γ G (.ListComp elt [⟨tg, iter, ifs, 0⟩] sc pos) (fun ρ => bind1 (fun ds => bind1 elist (compL u t g ds (unbs tl ρ))) (fs ρ)) := fun A env s M ρ oa d Q E P e q => by
  obtain ⟨ds, e1, e2⟩ := bind1_some e
  obtain ⟨res, e2, e3⟩ := bind1_some e2
  unfold elist at e3
  split at e3
  · rename_i hsm
    cases e3
    rw [eval_ListComp]
    refine wpAny_comprehension_free rfl (folded_notSet hs) (closureFor_eq fun x hx hf => ?_) cs.kind (fun x hx hl => by rw [cs.names x hx, hl]) (comp_run (RR := fun acc C r s' => compPost (model W.prog W.w) A E none Q acc C r s') P cs hi hu ht hg e1 e2 hsm ?_)
    · obtain ⟨i, hi⟩ := cs.free x hx hf
      obtain ⟨c, _, h, _⟩ := P.env.cel _ _ hi
      exact ⟨c, h⟩
    · intro a C vs k m h' tk kk ha hC hne hns ga hv
      refine ⟨m, hns, fun h'' hs'' => q a vs k h'' tk (fun b o e => (hs''.2 b (fun x => by rw [x, hC] at e; cases e)).trans (kk b o e)) ha ((hs''.2 a hne).trans ga) (hv.to fun b o nb g _ => ⟨fun x => nb ?_, (hs''.2 b fun x => nb (.inr (.inl x))).trans g⟩)⟩
      rcases x with x | x
      · exact .inl x
      · exact .inr (.inr x)
  · cases e3
end
end Gos
end

section
open PySem PySem.W PyProof.Rows
namespace Gos
open PySem

noncomputable def upd (oa : Nat → Addr) (i : Nat) (a : Addr) : Nat → Addr := fun j => if j = i then a else oa j
theorem upd_self (oa : Nat → Addr) (i : Nat) (a : Addr) : upd oa i a i = a := by simp [upd]
theorem upd_ne {oa : Nat → Addr} {i j : Nat} {a : Addr} (h : i ≠ j) : upd oa i a j = oa j := by simp [upd, Ne.symm h]

theorem sset_cases {ρ : List S} {i j : Nat} {σ τ : S} (e : sget (sset ρ i σ) j = τ) (hτ : τ ≠ .unb) : (i = j ∧ τ = σ) ∨ (i ≠ j ∧ sget ρ j = τ) := by
  by_cases x : i = j
  · subst x
    rcases @sget_sset_self σ ρ i with h | h
    · exact .inl ⟨rfl, by rw [← e, h]⟩
    · rw [h] at e; exact absurd e.symm hτ
  · exact .inr ⟨x, by rwa [sget_sset_ne x] at e⟩

section
variable {W : Gl} {n : Nat} {Γ : Lay} {G : List Str}

/-- what is asked of a value that goes into a slot -/
structure Fits (L : Addr) (ρ : List S) (oa : Nat → Addr) (h : Heap) (M : Addr → Prop) (i : Nat) (σ : S) (v : Value) (a' : Addr) : Prop where
  sv : SV h M a' σ (some v)
  nL : ∀ ds, σ = .own ds → L ≠ a'
  ap : ∀ ds, σ = .own ds → ∀ j es, j ≠ i → sget ρ j = .own es → oa j ≠ a'

theorem SV.ownM {h : Heap} {M : Addr → Prop} {a : Addr} {ds : Pay} {ov : Option Value} (x : SV h M a (.own ds) ov) : M a := x.2.1

theorem storeAny {Mo : Model} {A : Around} {env : Env} {s : Shared} {M : Addr → Prop} {ρ : List S} {oa : Nat → Addr} {Q : Unit → Shared → Prop} {E : Value → Shared → Prop} {i : Nat} {x : Str} {k : VK} {v : Value} {σ : S} {a' : Addr}
    (es : EnvS Γ G env) (eo : EnvOk Γ env ρ s.heap M oa) (hx : Γ[i]? = some (x, k)) (hk : k ≠ .no) (r : Fits env.locals ρ oa s.heap M i σ v a')
    (q : ∀ h' tk c, SlotAt env x k c → M c → Heap.SameBut c s.heap h' → EnvOk Γ env (sset ρ i σ) h' M (upd oa i a') → Q () { s with heap := h', toks := tk }) :
    wpAny Mo A (storeName env x v) Q E s := by
  have apt : ∀ a b ds ess, sget (sset ρ i σ) a = .own ds → sget (sset ρ i σ) b = .own ess → upd oa i a' a = upd oa i a' b → a = b := fun a b ds ess h1 h2 h3 => by
    rcases sset_cases h1 (by simp) with ⟨rfl, e1⟩ | ⟨n1, e1⟩ <;> rcases sset_cases h2 (by simp) with ⟨rfl, e2⟩ | ⟨n2, e2⟩
    · rfl
    · rw [upd_self, upd_ne n2] at h3; exact absurd h3.symm (r.ap ds e1.symm b ess (Ne.symm n2) e2)
    · rw [upd_self, upd_ne n1] at h3; exact absurd h3 (r.ap ess e2.symm a ds (Ne.symm n1) e1)
    · rw [upd_ne n1, upd_ne n2] at h3; exact eo.apart a b ds ess e1 e2 h3
  have own : ∀ j ds, sget (sset ρ i σ) j = .own ds → M (upd oa i a' j) := fun j ds h => by
    rcases sset_cases h (by simp) with ⟨rfl, e1⟩ | ⟨n1, e1⟩
    · rw [upd_self]; have := r.sv; rw [← e1] at this; exact this.ownM
    · rw [upd_ne n1]; exact eo.own j ds e1
  have oL : ∀ j ds, sget (sset ρ i σ) j = .own ds → env.locals ≠ upd oa i a' j := fun j ds h => by
    rcases sset_cases h (by simp) with ⟨rfl, e1⟩ | ⟨n1, e1⟩
    · rw [upd_self]; exact r.nL ds e1.symm
    · rw [upd_ne n1]; exact eo.oL j ds e1
  cases k with
  | no => exact absurd rfl hk
  | loc =>
    refine wpAny_storeName_local (es.loc i x hx) eo.ns (fun h' hn hs => ?_) (by rw [es.kind]; rfl)
    have hm := hn.eq_nsMap
    have hdom : h'.get? env.locals ≠ none := by obtain ⟨o, _, _, g, _⟩ := hn; exact dom_some g
    refine q h' _ env.locals (.inl ⟨rfl, rfl⟩) eo.ML hs ⟨hm ▸ hn, eo.ML, dom_same eo.dom hs hdom, fun j y hj => ?_, fun j y hj => ?_, apt, own, oL⟩
    · rw [← hm]
      by_cases e : i = j
      · subst e
        rw [hx] at hj; cases hj
        rw [upd_self]
        rcases @sget_sset_self σ ρ i with h | h <;> rw [h]
        · simp only [if_true]; exact r.sv.same hs eo.ML fun p e _ => r.nL p e
        · trivial
      · have hne : y ≠ x := fun e' => e (es.one i j x _ _ hx (e' ▸ hj) (by decide) (by decide))
        rw [sget_sset_ne e, upd_ne e]
        simp only [hne, if_false]
        exact (eo.loc j y hj).same hs eo.ML fun p e _ => eo.oL j p e
    · by_cases e : i = j
      · subst e
        rw [hx] at hj; cases hj
      · rw [sget_sset_ne e, upd_ne e]
        obtain ⟨c, ov, h1, h2, h3, h4⟩ := eo.cel j y hj
        exact ⟨c, ov, h1, h2.sameBut hs (Ne.symm (ns_ne_cell eo.ns h2)), h3, h4.same hs eo.ML fun p e _ => eo.oL j p e⟩
  | cel =>
    obtain ⟨c, ov, h1, h2, h3, h4⟩ := eo.cel i x hx
    refine wpAny_storeName_cell es.kind (es.cel i x hx) h1 h2 fun h' hc hs => ?_
    have hdom : h'.get? c ≠ none := by obtain ⟨o, g, _⟩ := hc; exact dom_some g
    have hns : h'.Ns env.locals (s.heap.nsMap env.locals) := eo.ns.sameBut hs (ns_ne_cell eo.ns h2)
    have hm := hns.eq_nsMap
    refine q h' _ c (.inr ⟨rfl, h1⟩) h3 hs ⟨hm ▸ hns, eo.ML, dom_same eo.dom hs hdom, fun j y hj => ?_, fun j y hj => ?_, apt, own, oL⟩
    · have e : i ≠ j := fun e => by subst e; rw [hx] at hj; cases hj
      rw [← hm, sget_sset_ne e, upd_ne e]
      exact (eo.loc j y hj).same hs h3 fun p e x => by obtain ⟨o, g, d⟩ := h2; exact x.notCell g d
    · by_cases e : i = j
      · subst e
        rw [hx] at hj; cases hj
        refine ⟨c, some v, h1, hc, h3, ?_⟩
        rw [upd_self]
        rcases @sget_sset_self σ ρ i with h | h <;> rw [h]
        · exact r.sv.same hs h3 fun p e x => by obtain ⟨o, g, d⟩ := h2; exact x.notCell g d
        · trivial
      · rw [sget_sset_ne e, upd_ne e]
        obtain ⟨c', ov', g1, g2, g3, g4⟩ := eo.cel j y hj
        have hne : c' ≠ c := fun e' => by
          have := es.apart x y c h1 (e' ▸ g1)
          subst this
          exact e (es.one i j _ _ _ hx hj (by decide) (by decide))
        exact ⟨c', ov', g1, g2.sameBut hs hne, g3, g4.same hs h3 fun p e x => by obtain ⟨o, g, d⟩ := h2; exact x.notCell g d⟩

inductive Fl where
  | next (ρ : List S)
  | cont (ρ : List S)
  | ret (d : D)
  | retF (ds : List D)

/-- what stood at the call -/
structure PH where
  get? : Addr → Option Obj
noncomputable def Heap.ph (h : Heap) : PH := ⟨h.get?⟩
noncomputable def PKeep (p : PH) (h : Heap) : Prop := ∀ b o, p.get? b = some o → h.get? b = some o
theorem PKeep.trans {p : PH} {h h' : Heap} (a : PKeep p h) (b : Keep h h') : PKeep p h' := fun c o e => b c o (a c o e)
theorem PKeep.back {p : PH} {h : Heap} (k : PKeep p h) {b : Addr} (e : h.get? b = none) : p.get? b = none := by
  cases q : p.get? b with
  | none => rfl
  | some o => rw [k _ _ q] at e; cases e
structure Cx (W : Gl) (n : Nat) (Γ : Lay) (G : List Str) (A : Around) (env : Env) (hb : PH) (M₀ : Addr → Prop) : Prop where
  ok : Ok n A
  es : EnvS Γ G env
  h0 : ∀ b o, W.h₀.get? b = some o → hb.get? b = some o
  off : ∀ a, M₀ a → W.h₀.get? a = none
  dom : ∀ a, M₀ a → hb.get? a ≠ none
  lF : hb.get? env.locals = none
  cF : ∀ (i : Nat) x c, Γ[i]? = some (x, VK.cel) → env.cells.lookup x = some c → hb.get? c = none

structure St (Γ : Lay) (env : Env) (hb : PH) (M₀ : Addr → Prop) (ρ : List S) (h : Heap) (M : Addr → Prop) (oa : Nat → Addr) : Prop where
  env : EnvOk Γ env ρ h M oa
  kb : PKeep hb h
  sub : ∀ a, M₀ a → M a
  new : ∀ a, M a → M₀ a ∨ hb.get? a = none
  oF : ∀ i ds, sget ρ i = .own ds → hb.get? (oa i) = none

theorem back {h h' : Heap} (k : Keep h h') {b : Addr} (e : h'.get? b = none) : h.get? b = none := by
  cases q : h.get? b with
  | none => rfl
  | some o => rw [k _ _ q] at e; cases e

theorem Cx.base {A : Around} {env : Env} {hb : PH} {M₀ : Addr → Prop} (c : Cx W n Γ G A env hb M₀) {b : Addr} (e : hb.get? b = none) : W.h₀.get? b = none := by
  cases q : W.h₀.get? b with
  | none => rfl
  | some o => rw [c.h0 _ _ q] at e; cases e
section
variable {A : Around} {env : Env} {hb : PH} {h h' : Heap} {M₀ M : Addr → Prop} {s : Shared} {ρ : List S} {oa : Nat → Addr}
theorem Cx.pre (c : Cx W n Γ G A env hb M₀) (t : St Γ env hb M₀ ρ s.heap M oa) : Pre W n Γ G A env s M ρ oa :=
  ⟨c.ok, c.es, fun b o e => t.kb b o (c.h0 b o e), fun a m => (t.new a m).elim (c.off a) c.base, t.env⟩
theorem St.keep (t : St Γ env hb M₀ ρ h M oa) (k : Keep h h') : St Γ env hb M₀ ρ h' M oa := ⟨t.env.keep k, t.kb.trans k, t.sub, t.new, t.oF⟩
theorem Cx.less {m : Nat} (c : Cx W n Γ G A env hb M₀) (e : m ≤ n) : Cx W m Γ G A env hb M₀ := ⟨c.ok.less e, c.es, c.h0, c.off, c.dom, c.lF, c.cF⟩

/-- more mutable addresses: new objects -/
theorem EnvOk.grow {M' : Addr → Prop} (eo : EnvOk Γ env ρ h M oa) (k : Keep h h') (sub : ∀ a, M a → M' a) (new : ∀ a, M' a → M a ∨ (h.get? a = none ∧ h'.get? a ≠ none)) : EnvOk Γ env ρ h' M' oa := by
  have hns : h'.Ns env.locals (h.nsMap env.locals) := eo.ns.keeps k
  have hm := hns.eq_nsMap
  have nw : ∀ a, M' a → M a ∨ h.get? a = none := fun a m => (new a m).imp id (·.1)
  have sv : ∀ {a : Addr} {σ : S} {ov : Option Value}, SV h M a σ ov → SV h' M' a σ ov := fun {a σ ov} x => x.widen k sub nw
  refine ⟨hm ▸ hns, sub _ eo.ML, fun a m => ?_, fun i x hx => ?_, fun i x hx => ?_, eo.apart, fun i ds e => sub _ (eo.own i ds e), eo.oL⟩
  · rcases new a m with h1 | h1
    · cases q : h.get? a with
      | none => exact absurd q (eo.dom a h1)
      | some o => rw [k a o q]; simp
    · exact h1.2
  · rw [← hm]; exact sv (eo.loc i x hx)
  · obtain ⟨c, ov, h1, h2, h3, h4⟩ := eo.cel i x hx
    exact ⟨c, ov, h1, h2.keeps k, sub _ h3, sv h4⟩
theorem St.grow {M' : Addr → Prop} (t : St Γ env hb M₀ ρ h M oa) (k : Keep h h') (sub : ∀ a, M a → M' a) (new : ∀ a, M' a → M a ∨ (h.get? a = none ∧ h'.get? a ≠ none)) : St Γ env hb M₀ ρ h' M' oa :=
  ⟨t.env.grow k sub new, t.kb.trans k, fun a m => sub a (t.sub a m), fun a m => (new a m).elim (t.new a) fun x => .inr (t.kb.back x.1), t.oF⟩

theorem slot_free {x : Str} {k : VK} {i : Nat} {c : Addr} (cx : Cx W n Γ G A env hb M₀) (hx : Γ[i]? = some (x, k)) (sc : SlotAt env x k c) : hb.get? c = none := by
  rcases sc with ⟨rfl, rfl⟩ | ⟨rfl, e⟩
  · exact cx.lF
  · exact cx.cF i x c hx e

theorem St.store {i : Nat} {x : Str} {k : VK} {v : Value} {σ : S} {a' : Addr} {Mo : Model} {Q : Unit → Shared → Prop} {E : Value → Shared → Prop} (cx : Cx W n Γ G A env hb M₀) (t : St Γ env hb M₀ ρ s.heap M oa)
    (hx : Γ[i]? = some (x, k)) (hk : k ≠ .no) (r : Fits env.locals ρ oa s.heap M i σ v a') (hF : ∀ ds, σ = .own ds → hb.get? a' = none)
    (q : ∀ h' tk c, SlotAt env x k c → M c → Heap.SameBut c s.heap h' → St Γ env hb M₀ (sset ρ i σ) h' M (upd oa i a') → Q () { s with heap := h', toks := tk }) :
    wpAny Mo A (storeName env x v) Q E s := by
  refine storeAny cx.es t.env hx hk r fun h' tk c sc mc hs eo => q h' tk c sc mc hs ⟨eo, fun b o e => (hs.2 b fun x => ?_).trans (t.kb b o e), t.sub, t.new, fun j ds e => ?_⟩
  · rw [x, slot_free cx hx sc] at e; cases e
  · rcases sset_cases e (by simp) with ⟨rfl, e1⟩ | ⟨n1, e1⟩
    · rw [upd_self]; exact hF ds e1.symm
    · rw [upd_ne n1]; exact t.oF j ds e1
end

noncomputable def PostS (Γ : Lay) (env : Env) (hb : PH) (M₀ : Addr → Prop) (s : Shared) (M : Addr → Prop) : Fl → (Flow → Shared → Prop) → Prop
  | .next ρ', Q => ∀ h' tk M' oa', Step M s.heap M' h' → St Γ env hb M₀ ρ' h' M' oa' → Q .next { s with heap := h', toks := tk }
  | .cont ρ', Q => ∀ h' tk M' oa', Step M s.heap M' h' → St Γ env hb M₀ ρ' h' M' oa' → Q .cont { s with heap := h', toks := tk }
  | .ret d, Q => ∀ v h' tk, PKeep hb h' → Rel h' M₀ v d → Q (.ret v) { s with heap := h', toks := tk }
  | .retF ds, Q => ∀ a vs k h' tk, PKeep hb h' → hb.get? a = none → h'.get? a = some (lstO vs k) → RelAll h' (fun b => b = a ∨ M₀ b) vs ds → Q (.ret (.ref a)) { s with heap := h', toks := tk }

theorem PostS.up {env : Env} {hb : PH} {M₀ : Addr → Prop} {s : Shared} {M M' : Addr → Prop} {fl : Fl} {Q : Flow → Shared → Prop} {h' : Heap} {tk : Nat} (p : PostS Γ env hb M₀ s M fl Q) (st : Step M s.heap M' h') : PostS Γ env hb M₀ { s with heap := h', toks := tk } M' fl Q := by
  cases fl with
  | next ρ' => exact fun h2 tk M' oa' st' t => p h2 tk M' oa' (st.trans st') t
  | cont ρ' => exact fun h2 tk M' oa' st' t => p h2 tk M' oa' (st.trans st') t
  | ret d => exact fun v h2 tk k r => p v h2 tk k r
  | retF ds => exact fun a vs c h2 tk k e g r => p a vs c h2 tk k e g r
theorem PostS.upK {env : Env} {hb : PH} {M₀ : Addr → Prop} {s : Shared} {M : Addr → Prop} {fl : Fl} {Q : Flow → Shared → Prop} {h' : Heap} {tk : Nat} (p : PostS Γ env hb M₀ s M fl Q) (k : Keep s.heap h') : PostS Γ env hb M₀ { s with heap := h', toks := tk } M fl Q := p.up (.of_keep k)

noncomputable def DenS (W : Gl) (n : Nat) (Γ : Lay) (G : List Str) (sts : List Stmt) (g : List S → Option Fl) : Prop :=
  ∀ A env s hb M₀ M ρ oa fl Q E, Cx W n Γ G A env hb M₀ → St Γ env hb M₀ ρ s.heap M oa → g ρ = some fl → PostS Γ env hb M₀ s M fl Q → wpAny (model W.prog W.w) A (execs sts env) Q E s
noncomputable def DenO (W : Gl) (n : Nat) (Γ : Lay) (G : List Str) (st : Stmt) (g : List S → Option Fl) : Prop :=
  ∀ A env s hb M₀ M ρ oa fl Q E, Cx W n Γ G A env hb M₀ → St Γ env hb M₀ ρ s.heap M oa → g ρ = some fl → PostS Γ env hb M₀ s M fl Q → wpAny (model W.prog W.w) A (exec st env) Q E s

noncomputable def seqF (g2 : List S → Option Fl) : Fl → Option Fl
  | .next ρ' => g2 ρ'
  | o => some o
noncomputable def nextF (ρ : List S) : Option Fl := some (.next ρ)

theorem DenS.nil : DenS W n Γ G [] nextF := fun A env s hb M₀ M ρ oa fl Q E cx t e q => by
  cases e
  exact wpAny_execs_nil (q s.heap s.toks M oa (.refl _ _) t)
theorem DenS.cons {st : Stmt} {rest : List Stmt} {g1 g2 : List S → Option Fl} (h1 : DenO W n Γ G st g1) (h2 : DenS W n Γ G rest g2) : DenS W n Γ G (st :: rest) (fun ρ => bind1 (seqF g2) (g1 ρ)) := fun A env s hb M₀ M ρ oa fl Q E cx t e q => by
  obtain ⟨f1, e1, e2⟩ := bind1_some e
  refine wpAny_execs_cons (h1 A env s hb M₀ M ρ oa f1 _ E cx t e1 ?_)
  cases f1 with
  | next ρ' => exact fun h' tk M' oa' st t' => h2 A env _ hb M₀ M' ρ' oa' fl Q E cx t' e2 (q.up st)
  | cont ρ' => cases e2; exact q
  | ret d => cases e2; exact q
  | retF ds => cases e2; exact q
theorem DenS.one {st : Stmt} {g1 : List S → Option Fl} (h1 : DenO W n Γ G st g1) : DenS W n Γ G [st] g1 := fun A env s hb M₀ M ρ oa fl Q E cx t e q => by
  refine wpAny_execs_cons (h1 A env s hb M₀ M ρ oa fl _ E cx t e ?_)
  cases fl with
  | next ρ' => exact fun h' tk M' oa' st t' => wpAny_execs_nil (q h' tk M' oa' st t')
  | cont ρ' => exact q
  | ret d => exact q
  | retF ds => exact q
noncomputable def stuck (_ : List S) : Option Fl := none
theorem DenS.stuck {sts : List Stmt} : DenS W n Γ G sts stuck := fun A env s hb M₀ M ρ oa fl Q E cx t e q => by cases e
theorem DenO.stuck {st : Stmt} : DenO W n Γ G st Gos.stuck := fun A env s hb M₀ M ρ oa fl Q E cx t e q => by cases e

/- plain statements -/
noncomputable def retE : Option D → Option Fl
  | some d => some (.ret d)
  | none => none
theorem DenO.ret {e : Expr} {pos : Pos} {f : List S → Option D} (ha : DenE W n Γ G e f) : DenO W n Γ G (.Return (some e) pos) (fun ρ => retE (f ρ)) := fun A env s hb M₀ M ρ oa fl Q E cx t e q => by
  dsimp only at e
  cases hf : f ρ with
  | none => rw [hf] at e; cases e
  | some d =>
    rw [hf] at e; cases e
    exact wpAny_Return_some (ha A env s M ρ oa d _ E (cx.pre t) hf fun v h' tk k r => q v h' tk (t.kb.trans k) (r.less t.sub))
noncomputable def retFE : Option (List D) → Option Fl
  | some d => some (.retF d)
  | none => none
theorem DenO.retF {e : Expr} {pos : Pos} {f : List S → Option (List D)} (ha : DenF W n Γ G e f) : DenO W n Γ G (.Return (some e) pos) (fun ρ => retFE (f ρ)) := fun A env s hb M₀ M ρ oa fl Q E cx t e q => by
  dsimp only at e
  cases hf : f ρ with
  | none => rw [hf] at e; cases e
  | some d =>
    rw [hf] at e; cases e
    exact wpAny_Return_some (ha A env s M ρ oa d _ E (cx.pre t) hf fun a vs c h' tk k e g r => q a vs c h' tk (t.kb.trans k) (t.kb.back e) g (r.less fun b hb => hb.imp id (t.sub b)))
noncomputable def contF (ρ : List S) : Option Fl := some (.cont ρ)
theorem DenO.cont {pos : Pos} : DenO W n Γ G (.Continue pos) contF := fun A env s hb M₀ M ρ oa fl Q E cx t e q => by
  cases e
  show wpAny _ _ (do standAt pos; pure Flow.cont : Sem Flow) _ _ _
  exact wpAny_bind (wpAny_standAt (wpAny_pure (q s.heap s.toks M oa (.refl _ _) t)))
theorem DenO.if {c : Expr} {b o : List Stmt} {pos : Pos} {ft : List S → Option Bool} {gb go : List S → Option Fl} (ht : DenT W n Γ G c ft) (hb : DenS W n Γ G b gb) (ho : DenS W n Γ G o go) :
    DenO W n Γ G (.If c b o pos) (fun ρ => ite1 (ft ρ) (gb ρ) (go ρ)) := fun A env s hb' M₀ M ρ oa fl Q E cx t e q => by
  cases hf : ft ρ with
  | none => simp [hf, ite1] at e
  | some c =>
    refine wpAny_If (ht A env s M ρ oa c _ E (cx.pre t) hf fun h1 tk1 k1 => ?_)
    cases c with
    | true => exact hb A env _ hb' M₀ M ρ oa fl Q E cx (t.keep k1) (by simpa [hf, ite1] using e) (q.upK k1)
    | false => exact ho A env _ hb' M₀ M ρ oa fl Q E cx (t.keep k1) (by simpa [hf, ite1] using e) (q.upK k1)

noncomputable def setE (i : Nat) (ρ : List S) : Option D → Option Fl
  | some d => some (.next (sset ρ i (.fr d)))
  | none => none
noncomputable def setF (i : Nat) (ρ : List S) : Option (List D) → Option Fl
  | some d => some (.next (sset ρ i (.own (.lst d))))
  | none => none
theorem Step.same {h h' : Heap} {M : Addr → Prop} {c : Addr} (mc : M c) (hs : Heap.SameBut c h h') : Step M h M h' := ⟨fun b o nb e => (hs.2 b fun x => nb (x ▸ mc)).trans e, fun _ x => .inl x⟩
theorem DenO.assign (i : Nat) {x : Str} {kd : VK} {e : Expr} {p pos : Pos} {f : List S → Option D} (ha : DenE W n Γ G e f) (hx : Γ[i]? = some (x, kd) := by rfl) (hk : kd ≠ .no := by decide)
    (hs : ∀ env, EnvS Γ G env → swapsWith e (some (.Name x p)) pos.line env = pure false := by intro _ _; rfl) : DenO W n Γ G (.Assign [.Name x p] e pos) (fun ρ => setE i ρ (f ρ)) := fun A env s hb M₀ M ρ oa fl Q E cx t e q => by
  dsimp only at e
  cases hf : f ρ with
  | none => rw [hf] at e; cases e
  | some d =>
    rw [hf] at e; cases e
    refine wpAny_Assign_Name (ha A env s M ρ oa d _ E (cx.pre t) hf fun v h1 tk1 k1 r1 => ?_) (hs env cx.es)
    refine St.store (s := { s with heap := h1, toks := tk1 }) (σ := .fr d) (a' := 0) cx (t.keep k1) hx hk ⟨⟨v, rfl, r1⟩, fun _ e => by (cases e), fun _ e => by cases e⟩ (fun _ e => by cases e) fun h' tk c sc mc hs' t' => ?_
    exact q h' tk M _ ((Step.of_keep k1).trans (Step.same mc hs')) t'
/-- a new list joins the mutable ones -/
theorem St.fresh {env : Env} {hb : PH} {h h' : Heap} {M₀ M : Addr → Prop} {ρ : List S} {oa : Nat → Addr} {a : Addr} {o : Obj} (t : St Γ env hb M₀ ρ h M oa) (k : Keep h h') (e : h.get? a = none) (g : h'.get? a = some o) : St Γ env hb M₀ ρ h' (fun b => b = a ∨ M b) oa :=
  t.grow k (fun b m => .inr m) fun b m => m.elim (fun x => .inr (x ▸ ⟨e, dom_some g⟩)) .inl
theorem Step.fresh {h h' : Heap} {M : Addr → Prop} {a : Addr} (k : Keep h h') (e : h.get? a = none) : Step M h (fun b => b = a ∨ M b) h' := ⟨fun b o _ e => k b o e, fun b m => m.elim (fun x => .inr (x ▸ e)) .inl⟩
theorem St.ownNe {env : Env} {hb : PH} {h : Heap} {M₀ M : Addr → Prop} {ρ : List S} {oa : Nat → Addr} {a : Addr} (t : St Γ env hb M₀ ρ h M oa) (e : h.get? a = none) : ∀ j es, sget ρ j = .own es → oa j ≠ a := fun j es hj x => t.env.dom _ (t.env.own j es hj) (x ▸ e)
theorem DenO.assignF (i : Nat) {x : Str} {kd : VK} {e : Expr} {p pos : Pos} {f : List S → Option (List D)} (ha : DenF W n Γ G e f) (hx : Γ[i]? = some (x, kd) := by rfl) (hk : kd ≠ .no := by decide)
    (hs : ∀ env, EnvS Γ G env → swapsWith e (some (.Name x p)) pos.line env = pure false := by intro _ _; rfl) : DenO W n Γ G (.Assign [.Name x p] e pos) (fun ρ => setF i ρ (f ρ)) := fun A env s hb M₀ M ρ oa fl Q E cx t e q => by
  dsimp only at e
  cases hf : f ρ with
  | none => rw [hf] at e; cases e
  | some d =>
    rw [hf] at e; cases e
    refine wpAny_Assign_Name (ha A env s M ρ oa d _ E (cx.pre t) hf fun a vs c h1 tk1 k1 e1 g1 r1 => ?_) (hs env cx.es)
    refine St.store (s := { s with heap := h1, toks := tk1 }) (σ := .own (.lst d)) (a' := a) cx (t.fresh k1 e1 g1) hx hk ⟨⟨rfl, .inl rfl, vs, c, g1, r1⟩, fun _ _ e => t.env.dom _ t.env.ML (e ▸ e1), fun _ _ j es _ hj => t.ownNe e1 j es hj⟩ (fun _ _ => t.kb.back e1) fun h' tk c sc mc hs' t' => ?_
    exact q h' tk _ _ ((Step.fresh k1 e1).trans (Step.same mc hs')) t'
theorem DenO.aug (i : Nat) {x : Str} {kd : VK} {op : Operator} {F : D → D → Option D} {e : Expr} {p pos : Pos} {f : List S → Option D} (hop : InpSem W op F) (ha : DenE W n Γ G e f) (hx : Γ[i]? = some (x, kd) := by rfl) (hk : kd ≠ .no := by decide) (hn : 1 ≤ n := by decide) :
    DenO W n Γ G (.AugAssign (.Name x p) op e pos) (fun ρ => setE i ρ (bind2 F (evar i ρ) (f ρ))) := fun A env s hb M₀ M ρ oa fl Q E cx t e q => by
  dsimp only at e
  cases hf : bind2 F (evar i ρ) (f ρ) with
  | none => rw [hf] at e; cases e
  | some d =>
    rw [hf] at e; cases e
    obtain ⟨a, b, e1, e2, e3⟩ := bind2_some hf
    have P := cx.pre t
    have e1' := evar_some e1
    refine wpAny_AugAssign_Name (loadSlot P i hx hk (fun v hv => ?_) fun ov h => ?_)
    · rw [e1'] at hv
      obtain ⟨u, hu, r⟩ := hv
      cases hu
      refine ha A env s M ρ oa b _ E P e2 fun u h1 tk1 k1 r1 => hop A _ M v u a b d _ E (cx.ok.less hn) (P.env.keep k1).dom (r.keep k1) r1 e3 fun w h2 tk2 k2 r2 => ?_
      have k12 := k1.trans k2
      refine St.store (s := { s with heap := h2, toks := tk2 }) (σ := .fr d) (a' := 0) cx (t.keep k12) hx hk ⟨⟨w, rfl, r2⟩, fun _ e => by (cases e), fun _ e => by cases e⟩ (fun _ e => by cases e) fun h' tk c sc mc hs' t' => ?_
      exact q h' tk M _ ((Step.of_keep k12).trans (Step.same mc hs')) t'
    · rw [e1'] at h
      obtain ⟨u, hu, _⟩ := h
      exact ⟨u, hu⟩

/- loops -/
noncomputable def whileL (t : List S → Option Bool) (b : List S → Option Fl) (k : Nat) : List S → Option Fl :=
  Nat.rec (fun _ => none) (fun _ ih ρ => ite1 (t ρ) (bind1 (fun fl => match fl with | .next ρ' => ih ρ' | .cont ρ' => ih ρ' | o => some o) (b ρ)) (some (.next ρ))) k
theorem DenO.while (k : Nat) {c : Expr} {b : List Stmt} {pos : Pos} {ft : List S → Option Bool} {gb : List S → Option Fl} (ht : DenT W n Γ G c ft) (hb : DenS W n Γ G b gb) : DenO W n Γ G (.While c b [] pos) (whileL ft gb k) := fun A env s hb' M₀ M ρ oa fl Q E cx t e q => by
  refine wpAny_While ?_
  refine codeAny_whileLoop (fun m s' => ∃ ρ' h' tk M' oa', s' = { s with heap := h', toks := tk } ∧ whileL ft gb m ρ' = some fl ∧ Step M s.heap M' h' ∧ St Γ env hb' M₀ ρ' h' M' oa') ?_ k ⟨ρ, s.heap, s.toks, M, oa, rfl, e, .refl _ _, t⟩
  rintro m s' ⟨ρ', h', tk, M', oa', rfl, e', st', t'⟩
  cases m with
  | zero => cases e'
  | succ m =>
    have e2 : ite1 (ft ρ') (bind1 (fun fl => match fl with | .next ρ' => whileL ft gb m ρ' | .cont ρ' => whileL ft gb m ρ' | o => some o) (gb ρ')) (some (.next ρ')) = some fl := e'
    cases hf : ft ρ' with
    | none => simp [hf, ite1] at e2
    | some c =>
      refine ht A env { s with heap := h', toks := tk } M' ρ' oa' c _ _ (cx.pre (s := { s with heap := h', toks := tk }) t') hf fun h1 tk1 k1 => ?_
      cases c with
      | false =>
        simp only [hf, ite1, Option.some.injEq] at e2
        subst e2
        exact wpAny_execs_nil (q h1 tk1 M' oa' (st'.trans (.of_keep k1)) (t'.keep k1))
      | true =>
        simp only [hf, ite1] at e2
        obtain ⟨f1, e3, e4⟩ := bind1_some e2
        refine hb A env _ hb' M₀ M' ρ' oa' f1 _ _ cx (t'.keep k1) e3 ?_
        cases f1 with
        | next ρ2 => exact fun h2 tk2 M2 oa2 st2 t2 => ⟨m, Nat.lt_succ_self _, ρ2, h2, tk2, M2, oa2, rfl, e4, (st'.trans (.of_keep k1)).trans st2, t2⟩
        | cont ρ2 => exact fun h2 tk2 M2 oa2 st2 t2 => ⟨m, Nat.lt_succ_self _, ρ2, h2, tk2, M2, oa2, rfl, e4, (st'.trans (.of_keep k1)).trans st2, t2⟩
        | ret d => cases e4; exact fun v h2 tk2 k2 r2 => q v h2 tk2 k2 r2
        | retF d => cases e4; exact fun a vs c h2 tk2 k2 e r g => q a vs c h2 tk2 k2 e r g
end
end Gos
end

section
open PySem PySem.W PyProof.Rows
namespace Gos
open PySem

section
variable {W : Gl} {n : Nat} {Γ : Lay} {G : List Str}

theorem EnvOk.ownAt {env : Env} {ρ : List S} {h : Heap} {M : Addr → Prop} {oa : Nat → Addr} {i : Nat} {p : Pay} (eo : EnvOk Γ env ρ h M oa) (e : sget ρ i = .own p) {x : Str} {k : VK} (hx : Γ[i]? = some (x, k)) (hk : k ≠ .no) :
    M (oa i) ∧ OwnIs h M (oa i) p := by
  cases k with
  | no => exact absurd rfl hk
  | loc => have := eo.loc i x hx; rw [e] at this; exact this.2
  | cel => obtain ⟨c, ov, _, _, _, h4⟩ := eo.cel i x hx; rw [e] at h4; exact h4.2

/-- an owned object has turned (and new objects may stand) -/
theorem EnvOk.setOwn {env : Env} {ρ : List S} {h h' : Heap} {M : Addr → Prop} {oa : Nat → Addr} {i : Nat} {p p' : Pay} (eo : EnvOk Γ env ρ h M oa) (e : sget ρ i = .own p) (w : OwnIs h M (oa i) p)
    (hs : ∀ b o, b ≠ oa i → h.get? b = some o → h'.get? b = some o) (w' : OwnIs h' M (oa i) p') : EnvOk Γ env (sset ρ i (.own p')) h' M oa := by
  have mc : M (oa i) := eo.own i p e
  have kT : Trees h M h' M := fun b o m g _ => ⟨m, hs b o (fun e => m (e ▸ mc)) g⟩
  have hns : h'.Ns env.locals (h.nsMap env.locals) := eo.ns.at' fun o g => hs _ _ (eo.oL i p e) g
  have hm := hns.eq_nsMap
  have sv : ∀ {j : Nat} {ov : Option Value}, SV h M (oa j) (sget ρ j) ov → SV h' M (oa j) (sget (sset ρ i (.own p')) j) ov := fun {j ov} x => by
    by_cases ij : i = j
    · subst ij
      rw [e] at x
      rcases @sget_sset_self (.own p') ρ i with q | q <;> rw [q]
      · exact ⟨x.1, mc, w'⟩
      · trivial
    · rw [sget_sset_ne ij]
      exact x.to kT fun p2 e2 => ⟨eo.own j p2 e2, fun o g => hs _ _ (fun q => ij (eo.apart i j p p2 e e2 q.symm)) g⟩
  have own' : ∀ {j dj}, sget (sset ρ i (.own p')) j = .own dj → ∃ es, sget ρ j = .own es := fun {j dj} q => by
    rcases sset_cases q (by simp) with ⟨rfl, _⟩ | ⟨_, q⟩
    · exact ⟨_, e⟩
    · exact ⟨_, q⟩
  refine ⟨hm ▸ hns, eo.ML, fun b m q => ?_, fun j x hj => ?_, fun j x hj => ?_, fun a b da db h1 h2 h3 => ?_, fun j dj h1 => ?_, fun j dj h1 => ?_⟩
  · by_cases x : b = oa i
    · exact w'.some (x ▸ q)
    · cases g : h.get? b with
      | none => exact eo.dom b m g
      | some o => rw [hs b o x g] at q; cases q
  · rw [← hm]; exact sv (eo.loc j x hj)
  · obtain ⟨c', ov, h1, ⟨o, g, d⟩, h3, h4⟩ := eo.cel j x hj
    exact ⟨c', ov, h1, ⟨o, hs _ _ (w.notCell g d) g, d⟩, h3, sv h4⟩
  · obtain ⟨_, q1⟩ := own' h1
    obtain ⟨_, q2⟩ := own' h2
    exact eo.apart a b _ _ q1 q2 h3
  · obtain ⟨_, q1⟩ := own' h1
    exact eo.own j _ q1
  · obtain ⟨_, q1⟩ := own' h1
    exact eo.oL j _ q1
theorem St.setOwnX {env : Env} {hb : PH} {M₀ : Addr → Prop} {ρ : List S} {h h' : Heap} {M : Addr → Prop} {oa : Nat → Addr} {i : Nat} {p p' : Pay} (t : St Γ env hb M₀ ρ h M oa) (e : sget ρ i = .own p) (w : OwnIs h M (oa i) p)
    (hs : ∀ b o, b ≠ oa i → h.get? b = some o → h'.get? b = some o) (w' : OwnIs h' M (oa i) p') : St Γ env hb M₀ (sset ρ i (.own p')) h' M oa :=
  ⟨t.env.setOwn e w hs w', fun b o q => hs b o (fun x => by rw [x, t.oF i p e] at q; cases q) (t.kb b o q), t.sub, t.new, fun j dj h1 => by
    rcases sset_cases h1 (by simp) with ⟨rfl, _⟩ | ⟨_, q⟩
    · exact t.oF _ _ e
    · exact t.oF j _ q⟩
theorem St.setOwn {env : Env} {hb : PH} {M₀ : Addr → Prop} {ρ : List S} {h h' : Heap} {M : Addr → Prop} {oa : Nat → Addr} {i : Nat} {ds ds' : List D} {vs vs' : List Value} {c c' : Nat} (t : St Γ env hb M₀ ρ h M oa) (e : sget ρ i = .own (.lst ds)) (g : h.get? (oa i) = some (lstO vs c))
    (r0 : RelAll h M vs ds) (hs : Heap.SameBut (oa i) h h') (g' : h'.get? (oa i) = some (lstO vs' c')) (r : RelAll h' M vs' ds') : St Γ env hb M₀ (sset ρ i (.own (.lst ds'))) h' M oa :=
  t.setOwnX e ⟨vs, c, g, r0⟩ (fun b o n q => (hs.2 b n).trans q) ⟨vs', c', g', r⟩

/-- freezing: the own list is a plain value from here on -/
theorem St.freeze {env : Env} {hb : PH} {M₀ : Addr → Prop} {ρ : List S} {h : Heap} {M : Addr → Prop} {oa : Nat → Addr} {i : Nat} {ds : List D} {x : Str} {k : VK} (cx : ∀ a, M₀ a → hb.get? a ≠ none) (t : St Γ env hb M₀ ρ h M oa) (e : sget ρ i = .own (.lst ds)) (hx : Γ[i]? = some (x, k)) (hk : k ≠ .no) :
    St Γ env hb M₀ (sset ρ i (.fr (.list ds))) h (fun b => M b ∧ b ≠ oa i) oa := by
  obtain ⟨mc, ⟨vs, c, g, r⟩⟩ := t.env.ownAt e hx hk
  have sub : ∀ b, (M b ∧ b ≠ oa i) → M b := fun b m => m.1
  have eo := t.env
  have sv : ∀ {j : Nat} {ov : Option Value}, SV h M (oa j) (sget ρ j) ov → SV h (fun b => M b ∧ b ≠ oa i) (oa j) (sget (sset ρ i (.fr (.list ds))) j) ov := fun {j ov} x => by
    by_cases ij : i = j
    · subst ij
      rw [e] at x
      rcases @sget_sset_self (.fr (.list ds)) ρ i with q | q <;> rw [q]
      · exact ⟨_, x.1, .lst (fun m => m.2 rfl) g (r.less sub)⟩
      · trivial
    · rw [sget_sset_ne ij]
      exact x.to (Trees.less sub) fun p2 e2 => ⟨⟨eo.own j p2 e2, fun q => ij (eo.apart i j _ _ e e2 q.symm)⟩, fun o g => g⟩
  refine ⟨⟨eo.ns, ⟨eo.ML, ns_ne_list eo.ns g⟩, fun a m => eo.dom a m.1, fun j x hj => sv (eo.loc j x hj), fun j x hj => ?_, fun a b da db h1 h2 h3 => ?_, fun j dj h1 => ?_, fun j dj h1 => ?_⟩, t.kb, fun a m => ⟨t.sub a m, fun q => ?_⟩, fun a m => t.new a m.1, fun j dj h1 => ?_⟩
  · obtain ⟨c', ov, h1, h2, h3, h4⟩ := eo.cel j x hj
    exact ⟨c', ov, h1, h2, ⟨h3, cell_ne_list h2 g⟩, sv h4⟩
  · rcases sset_cases h1 (by simp) with ⟨_, q⟩ | ⟨_, q1⟩
    · cases q
    rcases sset_cases h2 (by simp) with ⟨_, q⟩ | ⟨_, q2⟩
    · cases q
    exact eo.apart a b _ _ q1 q2 h3
  · rcases sset_cases h1 (by simp) with ⟨_, q⟩ | ⟨ij, q1⟩
    · cases q
    exact ⟨eo.own j _ q1, fun q => ij (eo.apart i j _ _ e q1 q.symm)⟩
  · rcases sset_cases h1 (by simp) with ⟨_, q⟩ | ⟨ij, q1⟩
    · cases q
    exact eo.oL j _ q1
  · exact cx a m (q ▸ t.oF i _ e)
  · rcases sset_cases h1 (by simp) with ⟨_, q⟩ | ⟨_, q1⟩
    · cases q
    exact t.oF j _ q1

noncomputable def freeze (i : Nat) (ρ : List S) : Option (List S) := match sget ρ i with
  | .own (.lst ds) => some (sset ρ i (.fr (.list ds)))
  | _ => none
theorem freeze_some {i : Nat} {ρ ρ' : List S} (h : freeze i ρ = some ρ') : ∃ ds, sget ρ i = .own (.lst ds) ∧ ρ' = sset ρ i (.fr (.list ds)) := by
  unfold freeze at h
  split at h
  · rename_i ds e; cases h; exact ⟨ds, e, rfl⟩
  · cases h
theorem DenS.freeze (i : Nat) {x : Str} {k : VK} {sts : List Stmt} {g : List S → Option Fl} (h : DenS W n Γ G sts g) (hx : Γ[i]? = some (x, k) := by rfl) (hk : k ≠ .no := by decide) : DenS W n Γ G sts (fun ρ => bind1 g (Gos.freeze i ρ)) := fun A env s hb M₀ M ρ oa fl Q E cx t e q => by
  obtain ⟨ρ', e1, e2⟩ := bind1_some e
  obtain ⟨ds, e3, rfl⟩ := freeze_some e1
  exact h A env s hb M₀ _ _ oa fl Q E cx (t.freeze cx.dom e3 hx hk) e2 (q.up (M' := fun b => M b ∧ b ≠ oa i) (h' := s.heap) (tk := s.toks) ⟨fun b o nb e => e, fun a m => .inl m.1⟩)

/- a list's item is set -/
theorem setItem_lst {prog : Program} {w : World} {A : Around} {E : Value → Shared → Prop} {s : Shared} {l : Addr} {items : List Value} {c : Nat} {k : Int} {t : Tok} {v : Value} {Q : Unit → Shared → Prop} (hl : s.heap.get? l = some (lstO items c))
    (h0 : 0 ≤ k) (hfit : k < 2 ^ 63) (hn : k < items.length)
    (hQ : ∀ h' c', h'.get? l = some (lstO (items.set k.toNat v) c') → Heap.SameBut l s.heap h' → Q () { s with heap := h' }) :
    wpAny (model prog w) A (setItem (.ref l) (.int k t) v) Q E s := by
  have hL := isList_of hl
  unfold setItem
  try with_reducible refine wpAny_holding ?_
  first | refine wpAny_bind (wpAny_pure ?_) | skip
  refine wpAny_bind (wpAny_sequenceKey hL.typeIs (by decide) ?_)
  refine wpAny_bind (wpAny_callSpecial?_slot (name := Str.ofString "__setitem__") hL.typeIs slot_list_setitem
    (wpAny_call_entry slot_list_setitem hL.typeIs entry_list_setitem ?_ (args_list_setitem _ _ _)))
  show wpAny _ _ (Builtin.List.listSubscript? (.int k t) >>= _) _ _ s
  refine wpAny_bind (wpAny_listSubscript_int (fitsIndex_of h0 hfit) ?_)
  clear hfit
  obtain ⟨j, rfl⟩ := Int.eq_ofNat_of_zero_le h0
  have hj : j < items.toArray.size := by simp only [List.size_toArray]; omega
  have hx' : items.toArray[j]? = some items.toArray[j] := Array.getElem?_eq_getElem hj
  show wpAny _ _ ((seqItemAt l j >>= fun r => pure (r.map (j, ·))) >>= _) _ _ s
  refine wpAny_bind (wpAny_bind (wpAny_seqItemAt hl rfl (wpAny_pure ?_)))
  rw [hx']
  show wpAny _ _ (setSeqItemAt l j v >>= _) _ _ s
  have hfin : (s.heap.update l (Obj.mapSeq (·.setIfInBounds j v))).get? l = some (lstO (items.set j v) c) := by
    have := IsL.update (h := s.heap) (l := l) (items := items.toArray) (n := c) hl (·.setIfInBounds j v)
    simpa using this
  refine wpAny_bind (wpAny_setSeqItemAt hl rfl ?_)
  first
    | exact wpAny_bind (wpAny_pure (wpAny_pure ⟨.none, rfl, wpAny_pure (hQ _ _ hfin (Heap.SameBut.update ..))⟩))
    | exact wpAny_pure ⟨.none, rfl, wpAny_pure (hQ _ _ hfin (Heap.SameBut.update ..))⟩

noncomputable def setL (xs : List D) : Nat → D → List D := List.rec (motive := fun _ => Nat → D → List D) (fun _ _ => []) (fun a r ih n x => Nat.rec (motive := fun _ => List D) (x :: r) (fun m _ => a :: ih m x) n) xs
theorem setL_eq : ∀ {xs : List D} {k : Nat} {d : D}, setL xs k d = xs.set k d
  | [], _, _ => rfl
  | _ :: _, 0, _ => rfl
  | a :: r, k + 1, d => congrArg (a :: ·) (setL_eq (xs := r) (k := k) (d := d))
noncomputable def setI (xs : List D) (i : Int) (d : D) : Option (List D) :=
  Int.rec (motive := fun _ => Option (List D)) (fun j => Bool.rec (motive := fun _ => Option (List D)) none (some (setL xs j d)) (Nat.blt j (lenL xs) && Nat.blt j 1000000)) (fun _ => none) i
theorem setI_eq (xs : List D) (i : Int) (d : D) : setI xs i d = match i with
    | .ofNat j => if Nat.blt j xs.length && Nat.blt j 1000000 then some (xs.set j d) else none
    | .negSucc _ => none := by
  cases i with
  | ofNat j =>
    show @Bool.rec (fun _ => Option (List D)) none (some (setL xs j d)) (Nat.blt j (lenL xs) && Nat.blt j 1000000) = _
    rw [setL_eq, lenL_eq]
    show _ = (if (Nat.blt j xs.length && Nat.blt j 1000000) = true then some (xs.set j d) else none)
    cases (Nat.blt j xs.length && Nat.blt j 1000000) <;> rfl
  | negSucc j => rfl
noncomputable def setO (xs : List D) : D → D → Option (List D)
  | .int i, d => setI xs i d
  | _, _ => none
theorem setI_some {xs ys : List D} {i : Int} {d : D} (h : setI xs i d = some ys) : ∃ j : Nat, i = j ∧ j < xs.length ∧ j < 1000000 ∧ ys = xs.set j d := by
  rw [setI_eq] at h
  split at h
  · rename_i j
    split at h
    · rename_i hc
      have hc := Bool.and_eq_true_iff.mp hc
      cases h
      exact ⟨j, rfl, Nat.le_of_ble_eq_true hc.1, Nat.le_of_ble_eq_true hc.2, rfl⟩
    · cases h
  · cases h
/-- the store into an own list -/
theorem storeItem {A : Around} {env : Env} {s : Shared} {hb : PH} {M₀ M : Addr → Prop} {ρ : List S} {oa : Nat → Addr} {i : Nat} {ds ys : List D} {vs : List Value} {c : Nat} {vi v : Value} {di d : D} {Q : Unit → Shared → Prop} {E : Value → Shared → Prop}
    (t : St Γ env hb M₀ ρ s.heap M oa) (e : sget ρ i = .own (.lst ds)) (m : M (oa i)) (g : s.heap.get? (oa i) = some (lstO vs c)) (r : RelAll s.heap M vs ds) (ri : Rel s.heap M vi di) (rv : Rel s.heap M v d) (e2 : setO ds di d = some ys)
    (q : ∀ h', Step M s.heap M h' → St Γ env hb M₀ (sset ρ i (.own (.lst ys))) h' M oa → Q () { s with heap := h' }) : wpAny (model W.prog W.w) A (setItem (.ref (oa i)) vi v) Q E s := by
  unfold setO at e2
  split at e2
  · cases ri with
    | int k tk =>
      obtain ⟨j, rfl, h1, h2, rfl⟩ := setI_some e2
      have hl := r.length
      refine setItem_lst g (Int.natCast_nonneg j) (by omega) (by omega) fun h' c' g' hs => ?_
      have st : Step M s.heap M h' := Step.same m hs
      exact q h' st (t.setOwn e g r hs g' (by simpa using st.relAll (r.set rv)))
  · cases e2

noncomputable def setOF (i : Nat) (ρ : List S) (a b : Option D) : Option Fl := match eown i ρ, a, b with
  | some xs, some k, some d => (match setO xs k d with | some ys => some (.next (sset ρ i (.own (.lst ys)))) | none => none)
  | _, _, _ => none
theorem setOF_some {i : Nat} {ρ : List S} {a b : Option D} {fl : Fl} (h : setOF i ρ a b = some fl) : ∃ xs k d ys, eown i ρ = some xs ∧ a = some k ∧ b = some d ∧ setO xs k d = some ys ∧ fl = .next (sset ρ i (.own (.lst ys))) := by
  unfold setOF at h
  split at h
  · rename_i xs k d h1
    split at h
    · rename_i ys h2; cases h; exact ⟨_, _, _, _, h1, rfl, rfl, h2, rfl⟩
    · cases h
  · cases h
/-- own[i] = e -/
theorem DenO.setItem (i : Nat) {x : Str} {kd : VK} {e ei : Expr} {p sp pos : Pos} {f fi : List S → Option D} (ha : DenE W n Γ G e f) (hi : DenE W n Γ G ei fi) (hx : Γ[i]? = some (x, kd) := by rfl) (hk : kd ≠ .no := by decide)
    (hs : ∀ env, EnvS Γ G env → swapsWith e (some (.Subscript (.Name x p) ei sp)) pos.line env = pure false := by intro _ _; rfl) : DenO W n Γ G (.Assign [.Subscript (.Name x p) ei sp] e pos) (fun ρ => setOF i ρ (fi ρ) (f ρ)) := fun A env s hb M₀ M ρ oa fl Q E cx t e q => by
  obtain ⟨xs, k, d, ys, h1, h2, h3, h4, rfl⟩ := setOF_some e
  have P := cx.pre t
  refine wpAny_Assign_Subscript (ha A env s M ρ oa d _ E P h3 fun v hv tkv kv rv => ?_) (hs env cx.es)
  have P1 := P.up (tk := tkv) kv
  refine ownName P1 i hx hk h1 fun vs c m g r => ?_
  refine hi A env _ M ρ oa k _ E P1 h2 fun u hu tku ku ru => ?_
  have t2 := (t.keep kv).keep ku
  refine storeItem (s := { s with heap := hu, toks := tku }) t2 (eown_some h1) m (ku _ _ g) (r.keep ku) ru (rv.keep ku) h4 fun h' st t' => ?_
  exact q h' tku M oa (((Step.of_keep kv).trans (.of_keep ku)).trans st) t'

noncomputable def augOF (F : D → D → Option D) (i : Nat) (ρ : List S) (a b : Option D) : Option Fl := match eown i ρ, a, b with
  | some xs, some k, some d => (match didxO xs k with
    | some old => (match F old d with
      | some new => (match setO xs k new with | some ys => some (.next (sset ρ i (.own (.lst ys)))) | none => none)
      | none => none)
    | none => none)
  | _, _, _ => none
theorem augOF_some {F : D → D → Option D} {i : Nat} {ρ : List S} {a b : Option D} {fl : Fl} (h : augOF F i ρ a b = some fl) : ∃ xs k d old new ys, eown i ρ = some xs ∧ a = some k ∧ b = some d ∧ didxO xs k = some old ∧ F old d = some new ∧ setO xs k new = some ys ∧ fl = .next (sset ρ i (.own (.lst ys))) := by
  unfold augOF at h
  split at h
  · rename_i xs k d h1
    split at h
    · rename_i old h2
      split at h
      · rename_i new h3
        split at h
        · rename_i ys h4; cases h; exact ⟨_, _, _, _, _, _, h1, rfl, rfl, h2, h3, h4, rfl⟩
        · cases h
      · cases h
    · cases h
  · cases h
/-- own[i] op= e -/
theorem DenO.augItem (i : Nat) {x : Str} {kd : VK} {op : Operator} {F : D → D → Option D} {e ei : Expr} {p sp pos : Pos} {f fi : List S → Option D} (hop : InpSem W op F) (ha : DenE W n Γ G e f) (hi : DenE W n Γ G ei fi) (hx : Γ[i]? = some (x, kd) := by rfl) (hk : kd ≠ .no := by decide)
    (hn : 1 ≤ n := by decide) (hj : ∀ ov iv new, augStore ei ov iv new = (do holding [new, ov, iv] (PySem.setItem ov iv new); release [new, ov, iv] []; pure .next) := by intros; rfl) : DenO W n Γ G (.AugAssign (.Subscript (.Name x p) ei sp) op e pos) (fun ρ => augOF F i ρ (fi ρ) (f ρ)) := fun A env s hb M₀ M ρ oa fl Q E cx t e q => by
  obtain ⟨xs, k, d, old, new, ys, h1, h2, h3', h4, h5, h6, rfl⟩ := augOF_some e
  have P := cx.pre t
  refine wpAny_AugAssign_SubscriptAny (ownName P i hx hk h1 fun vs c m g r => ?_) hj
  refine hi A env s M ρ oa k _ E P h2 fun u hu tku ku ru => ?_
  have tail : ∀ vo h3 tk3, Keep hu h3 → Rel h3 M vo old → wpAny (model W.prog W.w) A (eval _ env) (fun v s₄ => wpAny (model W.prog W.w) A (inplaceOp op vo v) (fun new s₅ => wpAny (model W.prog W.w) A (PySem.setItem (.ref (oa i)) u new) (fun _ => Q .next) E s₅) E s₄) E { s with heap := h3, toks := tk3 } := fun vo h3 tk3 k3 ro => by
    have kb := ku.trans k3
    refine ha A env { s with heap := h3, toks := tk3 } M ρ oa d _ E (P.up kb) h3' fun v hv tkv kv rv => ?_
    have k2 := kb.trans kv
    refine hop A { s with heap := hv, toks := tkv } M vo v old d new _ E (cx.ok.less hn) (t.keep k2).env.dom (ro.keep kv) rv h5 fun w hw tkw kw rw => ?_
    have k4 := k2.trans kw
    refine storeItem (s := { s with heap := hw, toks := tkw }) (t.keep k4) (eown_some h1) m (k4 _ _ g) (r.keep k4) (((ru.keep k3).keep kv).keep kw) rw h6 fun h' st t' => ?_
    exact q h' tkw M oa ((Step.of_keep k4).trans st) t'
  unfold didxO at h4
  split at h4
  · cases ru with
    | int j tj => exact list_item (s := { s with heap := hu, toks := tku }) (ku _ _ g) (r.keep ku) h4 fun vo h3 tk3 k3 r3 => tail vo h3 tk3 k3 r3
  · cases h4
end
end Gos
end

section
open PySem PySem.W PyProof.Rows
namespace Gos
open PySem

section
variable {W : Gl} {n : Nat} {Γ : Lay} {G : List Str}

theorem inter_false {env : Env} (es : EnvS Γ G env) : interactive env = false := by unfold interactive; rw [es.kind]; rfl

theorem update_same {h : Heap} {a : Addr} {f : Obj → Obj} : Heap.SameBut a h (h.update a f) := Heap.SameBut.update ..

theorem attrBase_name {x : Str} {p : Pos} {attr : Str} {env : Env} {w : Sem Value} : attributeBase (.Name x p) attr env w = w := rfl

theorem lst_type {s : Shared} {a : Addr} {vs : List Value} {c : Nat} (g : s.heap.get? a = some (lstO vs c)) : s.TypeIs (.ref a) "list" := ⟨_, g, rfl⟩

/-- own.append(e) -/
noncomputable def appO (i : Nat) (ρ : List S) (a : Option D) : Option Fl := match eown i ρ, a with
  | some xs, some d => if small xs then some (.next (sset ρ i (.own (.lst (snoc xs d))))) else none
  | _, _ => none
theorem appO_some {i : Nat} {ρ : List S} {a : Option D} {fl : Fl} (h : appO i ρ a = some fl) : ∃ xs d, eown i ρ = some xs ∧ a = some d ∧ small xs = true ∧ fl = .next (sset ρ i (.own (.lst (xs ++ [d])))) := by
  unfold appO at h
  simp only [snoc_eq] at h
  split at h
  · rename_i xs d h1
    split at h
    · rename_i h2; cases h; exact ⟨_, _, h1, rfl, h2, rfl⟩
    · cases h
  · cases h
theorem DenO.append (i : Nat) {x : Str} {kd : VK} {e : Expr} {p ap cp pos : Pos} {f : List S → Option D} (ha : DenE W n Γ G e f) (hx : Γ[i]? = some (x, kd) := by rfl) (hk : kd ≠ .no := by decide) (hl : (ap.endLine == cp.line) = true := by rfl) (he : isStarred e = false := by rfl) :
    DenO W n Γ G (.Expr (.Call (.Attribute (.Name x p) "append" ap) [e] [] cp) pos) (fun ρ => appO i ρ (f ρ)) := fun A env s hb M₀ M ρ oa fl Q E cx t e' q => by
  obtain ⟨xs, d, h1, h2, h3, rfl⟩ := appO_some e'
  have P := cx.pre t
  have hst : starEach [e] env = [(false, eval e env)] := starEach_cons he
  refine wpAny_Expr ?_ (inter_false cx.es) rfl
  refine wpAny_Call_method attrBase_name (by rw [hst]; rfl) hl PySem.F.plainAttrs_list PySem.F.slot_list_append PySem.F.type_list_append ?_
  refine ownName P i hx hk h1 fun vs c m g r => ⟨lst_type g, fun a ea => by cases ea; exact ⟨_, g, rfl⟩, ?_⟩
  rw [show backTo cp (starEach [e] env) = [(false, eval e env)] by rw [hst]; rfl]
  refine PySem.P.append_list ?_
  refine ha A env s M ρ oa d _ E P h2 fun v h1' tk1 k1 r1 => ⟨vs.toArray, c, by rw [List.size_toArray, r.length]; exact small_le h3, k1 _ _ g, ?_⟩
  have g' := IsL.update (h := h1') (l := oa i) (items := vs.toArray) (n := c) (k1 _ _ g) (·.push v)
  have hs : Heap.SameBut (oa i) h1' (h1'.update (oa i) (Obj.mapSeq (·.push v))) := Heap.SameBut.update ..
  have st := Step.same m hs
  have g2 : (h1'.update (oa i) (Obj.mapSeq (·.push v))).get? (oa i) = some (lstO (vs ++ [v]) (if (vs.toArray.push v).size == vs.toArray.size then c else c + 1)) := by
    rw [g']; simp
  exact q _ tk1 M oa ((Step.of_keep k1).trans st) ((t.keep k1).setOwn (eown_some h1) (k1 _ _ g) (r.keep k1) hs g2 ((st.relAll (r.keep k1)).append (.cons (st.rel r1) .nil)))

/-- own.insert(k, e), within -/
noncomputable def insN : Nat → D → List D → List D
  | 0, d, xs => d :: xs
  | _ + 1, d, [] => [d]
  | k + 1, d, x :: xs => x :: insN k d xs
theorem insN_eq : ∀ (k : Nat) (d : D) (xs : List D), k ≤ xs.length → insN k d xs = xs.take k ++ d :: xs.drop k
  | 0, _, _, _ => by simp [insN]
  | k + 1, d, [], h => by simp at h
  | k + 1, d, x :: xs, h => by simp [insN, insN_eq k d xs (by simpa using h)]
noncomputable def insO (i : Nat) (ρ : List S) (a b : Option D) : Option Fl := match eown i ρ, a, b with
  | some xs, some (.int (.ofNat k)), some d => if Nat.ble k xs.length && small xs then some (.next (sset ρ i (.own (.lst (insN k d xs))))) else none
  | _, _, _ => none
theorem insO_some {i : Nat} {ρ : List S} {a b : Option D} {fl : Fl} (h : insO i ρ a b = some fl) : ∃ xs k d, eown i ρ = some xs ∧ a = some (.int (.ofNat k)) ∧ b = some d ∧ k ≤ xs.length ∧ small xs = true ∧ fl = .next (sset ρ i (.own (.lst (insN k d xs)))) := by
  unfold insO at h
  split at h
  · rename_i xs k d h1
    split at h
    · rename_i h2
      have h2 := Bool.and_eq_true_iff.mp h2
      cases h; exact ⟨_, _, _, h1, rfl, rfl, Nat.le_of_ble_eq_true h2.1, h2.2, rfl⟩
    · cases h
  · cases h
theorem DenO.insert (i : Nat) {x : Str} {kd : VK} {e1 e2 : Expr} {p ap cp pos : Pos} {f1 f2 : List S → Option D} (ha : DenE W n Γ G e1 f1) (hb : DenE W n Γ G e2 f2) (hx : Γ[i]? = some (x, kd) := by rfl) (hk : kd ≠ .no := by decide) (hl : (ap.endLine == cp.line) = true := by rfl)
    (he1 : isStarred e1 = false := by rfl) (he2 : isStarred e2 = false := by rfl) :
    DenO W n Γ G (.Expr (.Call (.Attribute (.Name x p) "insert" ap) [e1, e2] [] cp) pos) (fun ρ => insO i ρ (f1 ρ) (f2 ρ)) := fun A env s hb' M₀ M ρ oa fl Q E cx t e' q => by
  obtain ⟨xs, k, d, h1, h2, h3, h4, h5, rfl⟩ := insO_some e'
  have P := cx.pre t
  have hst : starEach [e1, e2] env = [(false, eval e1 env), (false, eval e2 env)] := by rw [starEach_cons he1, starEach_cons he2]; rfl
  refine wpAny_Expr ?_ (inter_false cx.es) rfl
  refine wpAny_Call_method attrBase_name (by rw [hst]; rfl) hl PySem.F.plainAttrs_list PySem.F.slot_list_insert PySem.F.type_list_insert ?_
  refine ownName P i hx hk h1 fun vs c m g r => ⟨lst_type g, fun a ea => by cases ea; exact ⟨_, g, rfl⟩, ?_⟩
  rw [show backTo cp (starEach [e1, e2] env) = [(false, eval e1 env), (false, eval e2 env)] by rw [hst]; rfl]
  refine PySem.method_meets PySem.F.slot_list_insert PySem.F.entry_list_insert rfl (Calls.evalArgs_plain (Calls.spliced_cons ?_))
  refine ha A env s M ρ oa _ _ E P h2 fun v1 h1' tk1 k1 r1 => ?_
  refine Calls.spliced_cons (hb A env _ M ρ oa d _ E (P.up k1) h3 fun v h2' tk2 k2 r2 => Calls.spliced_nil ?_)
  have k12 := k1.trans k2
  have hl := r.length
  have hsz := small_le h5
  cases r1 with
  | int _ tt =>
    have h6 := small_le h5
    have h7 := h6
    rw [sizeLine_eq] at h6
    have hf : (k : Int) < 2 ^ 63 := by omega
    have hfit : Builtin.List.listFitsIndex (k : Int) = true := fitsIndex_of (Int.natCast_nonneg k) hf
    generalize hkz : Int.ofNat k = kz at *
    have hfit : Builtin.List.listFitsIndex kz = true := by rw [← hkz]; exact hfit
    have hfit : ¬ (!Builtin.List.listFitsIndex kz) = true := by rw [hfit]; decide
    have hz : vs.toArray.size ≤ sizeLine := by rw [List.size_toArray, hl]; exact h7
    have hM := AutoSeq1.list_insert_list_int_val_1 (oa i) vs.toArray c kz tt v hfit hz
    refine ⟨rfl, ⟨_, k12 _ _ g, rfl⟩, PySem.F.args_list_insert_3 _ _ _, _, hM, k12 _ _ g, ?_⟩
    subst hkz
    · have g' := IsL.update (h := h2') (l := oa i) (items := vs.toArray) (n := c) (k12 _ _ g) (fun xs => have k' := if Int.ofNat k < 0 then (Int.ofNat k + (xs.size : Int)).toNat else min (Int.ofNat k).toNat xs.size; (xs.extract 0 k').push v ++ xs.extract k')
      have hs : Heap.SameBut (oa i) h2' (h2'.update (oa i) (Obj.mapSeq (fun xs => have k' := if Int.ofNat k < 0 then (Int.ofNat k + (xs.size : Int)).toNat else min (Int.ofNat k).toNat xs.size; (xs.extract 0 k').push v ++ xs.extract k'))) := Heap.SameBut.update ..
      have st := Step.same m hs
      have hk0 : ¬ (Int.ofNat k < 0) := Int.not_lt.mpr (Int.natCast_nonneg k)
      have hkk : min (Int.ofNat k).toNat vs.toArray.size = k := by
        rw [show (Int.ofNat k).toNat = k from rfl, List.size_toArray, hl]; exact Nat.min_eq_left h4
      have key : ((have k' := if Int.ofNat k < 0 then (Int.ofNat k + (vs.toArray.size : Int)).toNat else min (Int.ofNat k).toNat vs.toArray.size; (vs.toArray.extract 0 k').push v ++ vs.toArray.extract k') : Array Value) = (vs.take k ++ v :: vs.drop k).toArray := by
        dsimp only
        rw [if_neg hk0, hkk]
        apply Array.ext'
        simp
        try (rw [List.take_of_length_le]; simp)
      rw [key] at g'
      exact q _ tk2 M oa ((Step.of_keep k12).trans st) ((t.keep k12).setOwn (eown_some h1) (k12 _ _ g) (r.keep k12) hs g' (by
        rw [insN_eq k d xs h4]
        have := r.keep k12
        exact ((st.relAll this).take).append (.cons (st.rel r2) (st.relAll this).drop)))

/-- a call for its None -/
noncomputable def dropF (ρ : List S) : Option D → Option Fl
  | some .none => some (.next ρ)
  | _ => none
theorem DenO.drop {e : Expr} {pos : Pos} {f : List S → Option D} (ha : DenE W n Γ G e f) (hs : ∀ env, EnvS Γ G env → swapsWith e none pos.line env = pure false := by intro _ _; rfl) : DenO W n Γ G (.Expr e pos) (fun ρ => dropF ρ (f ρ)) := fun A env s hb M₀ M ρ oa fl Q E cx t e' q => by
  dsimp only at e'
  unfold dropF at e'
  split at e'
  · rename_i h1
    cases e'
    refine wpAny_Expr (ha A env s M ρ oa _ _ E (cx.pre t) h1 fun v h1 tk1 k1 r1 => ?_) (inter_false cx.es) (hs env cx.es)
    cases r1
    exact q h1 tk1 M oa (.of_keep k1) (t.keep k1)
  · cases e'

/- for -/
noncomputable def forL (u : D → List S → Option (List S)) (b : List S → Option Fl) (ds : List D) : List S → Option Fl :=
  List.rec (fun ρ => some (.next ρ)) (fun d _ ih ρ => bind1 (fun ρ1 => bind1 (fun fl => match fl with | .next ρ' => ih ρ' | .cont ρ' => ih ρ' | o => some o) (b ρ1)) (u d ρ)) ds

theorem St.move {env : Env} {hb : PH} {M₀ : Addr → Prop} {ρ : List S} {h h' : Heap} {M : Addr → Prop} {oa : Nat → Addr} {own : Addr → Prop} (t : St Γ env hb M₀ ρ h M oa) (k : KeepI own h h') (hd : ∀ b, own b → ¬ M b) (hF : ∀ b, own b → hb.get? b = none) : St Γ env hb M₀ ρ h' M oa :=
  ⟨t.env.keepI k hd, fun b o e => k.keep b o (fun x => by rw [hF b x] at e; cases e) (t.kb b o e), t.sub, t.new, t.oF⟩

theorem DenO.for {k : Nat} {tg iter : Expr} {body : List Stmt} {pos : Pos} {u : D → List S → Option (List S)} {gb : List S → Option Fl} {fs : List S → Option (List D)} (hi : DenI W n Γ G tg iter fs) (hu : DenTg W Γ G k tg u) (hbd : DenS W n Γ G body gb)
    (hs : notSet iter = true := by rfl) : DenO W n Γ G (.For tg iter body [] pos) (fun ρ => bind1 (fun ds => forL u gb ds ρ) (fs ρ)) := fun A env s hb M₀ M ρ oa fl Q E cx t e q => by
  obtain ⟨ds, e1, e2⟩ := bind1_some e
  refine wpAny_For ?_ (folded_notSet hs)
  refine hi A env s M ρ oa ds _ E (cx.pre t) e1 fun it own hA tkA kA ho1 ho2 hit hself => ?_
  have oF : ∀ b, own b → hb.get? b = none := fun b x => t.kb.back (ho1 b x)
  refine codeAny_forLoop_any (fun m s' => ∃ ds ρ' h' tk M' oa', s' = { s with heap := h', toks := tk } ∧ m = ds.length ∧ ItOk W A tg own it ds h' M' ∧ forL u gb ds ρ' = some fl ∧ Step M s.heap M' h' ∧ St Γ env hb M₀ ρ' h' M' oa' ∧
      (∀ b, own b → h'.get? b ≠ none) ∧ (∀ b, own b → ¬ M' b)) ?_ ds.length ⟨ds, ρ, hA, tkA, M, oa, rfl, rfl, hit, e2, .of_keep kA, t.keep kA, ho2, fun b x m => t.env.dom b m (ho1 b x)⟩
  rintro m s' ⟨ds, ρ', h', tk, M', oa', rfl, rfl, hit', e', st', t', o1, o2⟩
  have stI : ∀ {h2}, KeepI own h' h2 → Step M s.heap M' h2 := fun {h2} k2 => ⟨fun b o nb e => k2.keep b o (fun x => by rw [ho1 b x] at e; cases e) (st'.keep b o nb e), st'.new⟩
  cases ds with
  | nil =>
    have e3 : some (Fl.next ρ') = some fl := e'
    cases e3
    refine wpAny_mono (hit' h' M' (.refl _ _) t'.env.dom { s with heap := h', toks := tk } (fun r s1 => match r with
      | none => wpAny (model W.prog W.w) A (execs [] env) (fun f s₃ => Q f s₃) (notedBy (model W.prog W.w) A env (cameBackBy (model W.prog W.w) A env E)) s1
      | some v => False) _ rfl fun h2 tk2 k2 => ?_) (fun r s1 hr => ?_) fun _ _ x => x
    · exact wpAny_execs_nil (q h2 tk2 M' oa' (stI k2) (t'.move k2 o2 oF))
    · cases r with
      | none => exact hr
      | some v => exact wpAny_mono hr (fun _ _ x => x.elim) fun _ _ x => x
  | cons d ds =>
    have e3 : bind1 (fun ρ1 => bind1 (fun fl => match fl with | .next ρ' => forL u gb ds ρ' | .cont ρ' => forL u gb ds ρ' | o => some o) (gb ρ1)) (u d ρ') = some fl := e'
    obtain ⟨ρ1, hu1, e4⟩ := bind1_some e3
    obtain ⟨f1, hb1, e5⟩ := bind1_some e4
    refine wpAny_mono (hit' h' M' (.refl _ _) t'.env.dom { s with heap := h', toks := tk } (fun r s1 => match r with
      | none => False
      | some v => wpAny (model W.prog W.w) A (PySem.assign tg env v) (fun _ s₂ => wpAny (model W.prog W.w) A (execs body env) (fun f s₃ => match f with
            | .next | .cont => ∃ m, m < (d :: ds).length ∧ ∃ ds ρ' h' tk M' oa', s₃ = { s with heap := h', toks := tk } ∧ m = ds.length ∧ ItOk W A tg own it ds h' M' ∧ forL u gb ds ρ' = some fl ∧ Step M s.heap M' h' ∧ St Γ env hb M₀ ρ' h' M' oa' ∧
      (∀ b, own b → h'.get? b ≠ none) ∧ (∀ b, own b → ¬ M' b)
            | .brk => Q .next s₃
            | .ret v => Q (.ret v) s₃) (notedBy (model W.prog W.w) A env (cameBackBy (model W.prog W.w) A env E)) s₂) (notedBy (model W.prog W.w) A env (cameBackBy (model W.prog W.w) A env E)) s1) _ rfl fun v h2 tk2 k2 ow2 rv it2 => ?_) (fun r s1 hr => ?_) fun _ _ x => x
    · have t2 := t'.move k2 o2 oF
      refine hu A env { s with heap := h2, toks := tk2 } M' ρ' oa' v d ρ1 _ _ ⟨cx.ok.hd, by have := cx.ok.dp; omega, by have := cx.ok.un; omega⟩ cx.es t2.env rv hu1 fun h3 tk3 c1 c2 c3 eo3 => ?_
      have tgF : ∀ b, TgA Γ env k b → hb.get? b = none := fun b x => by
        rcases x with rfl | ⟨i, x, _, hx, hc⟩
        · exact cx.lF
        · exact cx.cF i x b hx hc
      have st3 : Step M' h2 M' h3 := ⟨c2, fun _ x => .inl x⟩
      have t3 : St Γ env hb M₀ ρ1 h3 M' oa' := ⟨eo3, fun b o e => c1 b o (fun x => by rw [tgF b x] at e; cases e) (t2.kb b o e), t2.sub, t2.new, fun j ds e => t2.oF j ds (c3 j ds e)⟩
      have ow3 : ∀ b, own b → h3.get? b ≠ none := fun b x => by
        cases g : h2.get? b with
        | none => exact absurd g (ow2 b x)
        | some o => rw [c2 b o (o2 b x) g]; simp
      have fin : ∀ ρ2 h4 tk4 M4 oa4, Step M' h3 M4 h4 → St Γ env hb M₀ ρ2 h4 M4 oa4 → forL u gb ds ρ2 = some fl → ∃ m, m < (d :: ds).length ∧ ∃ ds ρ' h' tk M' oa', ({ s with heap := h4, toks := tk4 } : Shared) = { s with heap := h', toks := tk } ∧ m = ds.length ∧ ItOk W A tg own it ds h' M' ∧ forL u gb ds ρ' = some fl ∧ Step M s.heap M' h' ∧ St Γ env hb M₀ ρ' h' M' oa' ∧
      (∀ b, own b → h'.get? b ≠ none) ∧ (∀ b, own b → ¬ M' b) := fun ρ2 h4 tk4 M4 oa4 st4 t4 e6 =>
        ⟨ds.length, Nat.lt_succ_self _, ds, ρ2, h4, tk4, M4, oa4, rfl, rfl, it2.step (st3.trans st4), e6, (stI k2).trans (st3.trans st4), t4, fun b x => by
          cases g : h3.get? b with
          | none => exact absurd g (ow3 b x)
          | some o => rw [st4.keep b o (o2 b x) g]; simp, fun b x m => by
          rcases st4.new b m with y | y
          · exact o2 b x y
          · exact ow3 b x y⟩
      refine hbd A env { s with heap := h3, toks := tk3 } hb M₀ M' ρ1 oa' f1 _ _ cx t3 hb1 ?_
      cases f1 with
      | next ρ2 => exact fun h4 tk4 M4 oa4 st4 t4 => fin ρ2 h4 tk4 M4 oa4 st4 t4 e5
      | cont ρ2 => exact fun h4 tk4 M4 oa4 st4 t4 => fin ρ2 h4 tk4 M4 oa4 st4 t4 e5
      | ret d => cases e5; exact fun v h4 tk4 k4 r4 => q v h4 tk4 k4 r4
      | retF d => cases e5; exact fun a vs c h4 tk4 k4 e r g => q a vs c h4 tk4 k4 e r g
    · cases r with
      | none => exact hr.elim
      | some v => exact hr
end
end Gos
end

section
open PySem PySem.W PyProof.Rows
namespace Gos
open PySem

inductive It where
  | e (d : D)
  | f (p : Pay)

inductive Pt (h0 h : Heap) (N : Addr → Prop) : List Value → List It → Prop
  | nil : Pt h0 h N [] []
  | e {v : Value} {d : D} {vs : List Value} {its : List It} : Rel h N v d → Pt h0 h N vs its → Pt h0 h N (v :: vs) (.e d :: its)
  | f {a : Addr} {p : Pay} {vs : List Value} {its : List It} : h0.get? a = none → N a → OwnIs h N a p → Pt h0 h N vs its → Pt h0 h N (.ref a :: vs) (.f p :: its)

noncomputable def Dis (N : Addr → Prop) (vs : List Value) : Prop := vs.Pairwise fun u w => ∀ a, N a → u = .ref a → w ≠ .ref a

theorem Rel.notM {h : Heap} {N : Addr → Prop} {v : Value} {d : D} {a : Addr} (r : Rel h N v d) (e : v = .ref a) : ¬ N a := by
  subst e
  cases r with
  | tup m _ _ => exact m
  | lst m _ _ => exact m

section
variable {h0 h h' : Heap} {N N' : Addr → Prop} {vs : List Value} {its : List It}
theorem Pt.length (p : Pt h0 h N vs its) : vs.length = its.length := by induction p <;> simp_all
theorem Pt.back {h1 : Heap} (p : Pt h1 h N vs its) (k : Keep h0 h1) : Pt h0 h N vs its := by
  induction p with
  | nil => exact .nil
  | e r _ ih => exact .e r ih
  | f a b c _ ih => exact .f (Gos.back k a) b c ih
theorem Pt.app {ws : List Value} {jts : List It} (p : Pt h0 h N vs its) (q : Pt h0 h N ws jts) : Pt h0 h N (vs ++ ws) (its ++ jts) := by
  induction p with
  | nil => exact q
  | e r _ ih => exact .e r ih
  | f a b c _ ih => exact .f a b c ih
theorem Pt.rev (p : Pt h0 h N vs its) : Pt h0 h N vs.reverse its.reverse := by
  induction p with
  | nil => exact .nil
  | e r _ ih => simp only [List.reverse_cons]; exact ih.app (.e r .nil)
  | f a b c _ ih => simp only [List.reverse_cons]; exact ih.app (.f a b c .nil)
theorem Dis.rev (p : Dis N vs) : Dis N vs.reverse := by
  unfold Dis at *
  rw [List.pairwise_reverse]
  exact p.imp fun x a n e e' => x a n e' e
theorem Pt.notin {a : Addr} (p : Pt h0 h N vs its) (n : N a) (g : h0.get? a ≠ none) : ∀ u ∈ vs, u ≠ .ref a := by
  induction p with
  | nil => intro u hu; cases hu
  | e r _ ih =>
    intro u hu
    rcases List.mem_cons.mp hu with rfl | hu
    · exact fun e => r.notM e n
    · exact ih u hu
  | f x b c _ ih =>
    intro u hu
    rcases List.mem_cons.mp hu with rfl | hu
    · exact fun e => by cases e; exact g x
    · exact ih u hu
theorem Pt.same {c : Addr} (p : Pt h0 h N vs its) (hs : Heap.SameBut c h h') (nc : N c) (hc : h0.get? c ≠ none) : Pt h0 h' N vs its := by
  induction p with
  | nil => exact .nil
  | e r _ ih => exact .e (r.to (Trees.same hs nc)) ih
  | f a b d _ ih => exact .f a b (d.to (Trees.same hs nc) fun o g => (hs.2 _ (fun e => hc (e ▸ a))).trans g) ih
theorem Pt.keep (p : Pt h0 h N vs its) (k : Keep h h') : Pt h0 h' N vs its := by
  induction p with
  | nil => exact .nil
  | e r _ ih => exact .e (r.keep k) ih
  | f a b d _ ih => exact .f a b (d.to (Trees.keep k) fun o g => k _ _ g) ih
end

section
variable {W : Gl} {n : Nat} {Γ : Lay} {G : List Str}

noncomputable def DenIts (W : Gl) (n : Nat) (Γ : Lay) (G : List Str) (es : List Expr) (f : List S → Option (List It)) : Prop :=
  ∀ A env s M ρ oa its Q E pos, Pre W n Γ G A env s M ρ oa → f ρ = some its →
    (∀ vs h' tk N, Keep s.heap h' → (∀ a, M a → N a) → (∀ a, N a → M a ∨ (s.heap.get? a = none ∧ h'.get? a ≠ none)) → Pt s.heap h' N vs its → Dis N vs → Q vs { s with heap := h', toks := tk }) →
    wpAny (model W.prog W.w) A (spliced (backTo pos (starEach es env))) Q E s
theorem DenIts.nil : DenIts W n Γ G [] (fun _ => some []) := fun A env s M ρ oa its Q E pos P e q => by
  cases e
  exact wpAny_items_nil (q _ s.heap s.toks M (.refl _) (fun _ m => m) (fun _ m => .inl m) .nil .nil)
noncomputable def consE (d : D) (its : List It) : Option (List It) := some (.e d :: its)
noncomputable def consI (d : List D) (its : List It) : Option (List It) := some (.f (.lst d) :: its)
theorem DenIts.consE {e : Expr} {es : List Expr} {f : List S → Option D} {fs : List S → Option (List It)} (ha : DenE W n Γ G e f) (hb : DenIts W n Γ G es fs) (hs : isStarred e = false := by rfl) :
    DenIts W n Γ G (e :: es) (fun ρ => bind2 Gos.consE (f ρ) (fs ρ)) := fun A env s M ρ oa its Q E pos P e q => by
  obtain ⟨d, its, e1, e2, e3⟩ := bind2_some e
  cases e3
  refine wpAny_items_cons (ha A env s M ρ oa d _ E P e1 fun v h1 tk1 k1 r1 => hb A env _ M ρ oa its _ E pos (P.up k1) e2 fun vs h2 tk2 N k2 sub new p dis => ?_) (starEach_cons hs)
  have r2 : Rel h2 N v d := (r1.more fun a m => (new a m).imp id (·.1)).keep k2
  refine q _ h2 tk2 N (k1.trans k2) sub (fun a m => (new a m).imp id fun x => ⟨Gos.back k1 x.1, x.2⟩) (.e r2 (p.back k1)) (List.pairwise_cons.mpr ⟨fun u hu a n e => absurd n (r2.notM e), dis⟩)
theorem Pre.grow {A : Around} {env : Env} {s : Shared} {M M' : Addr → Prop} {ρ : List S} {oa : Nat → Addr} {h' : Heap} {tk : Nat} (P : Pre W n Γ G A env s M ρ oa) (k : Keep s.heap h') (sub : ∀ a, M a → M' a) (new : ∀ a, M' a → M a ∨ (s.heap.get? a = none ∧ h'.get? a ≠ none)) :
    Pre W n Γ G A env { s with heap := h', toks := tk } M' ρ oa := ⟨P.ok, P.es, P.base.trans k, fun a m => (new a m).elim (P.off a) fun x => Gos.back P.base x.1, P.env.grow k sub new⟩
theorem DenIts.consF {e : Expr} {es : List Expr} {f : List S → Option (List D)} {fs : List S → Option (List It)} (ha : DenF W n Γ G e f) (hb : DenIts W n Γ G es fs) (hs : isStarred e = false := by rfl) :
    DenIts W n Γ G (e :: es) (fun ρ => bind2 Gos.consI (f ρ) (fs ρ)) := fun A env s M ρ oa its Q E pos P e q => by
  obtain ⟨d, its, e1, e2, e3⟩ := bind2_some e
  cases e3
  refine wpAny_items_cons (ha A env s M ρ oa d _ E P e1 fun a us c h1 tk1 k1 ea ga r1 => ?_) (starEach_cons hs)
  refine hb A env _ (fun b => b = a ∨ M b) ρ oa its _ E pos (P.grow k1 (fun _ m => .inr m) fun b m => m.elim (fun x => .inr (x ▸ ⟨ea, dom_some ga⟩)) .inl) e2 fun vs h2 tk2 N k2 sub new p dis => ?_
  have na := sub a (.inl rfl)
  refine q _ h2 tk2 N (k1.trans k2) (fun b m => sub b (.inr m)) (fun b m => ?_) (.f ea na ⟨us, c, k2 _ _ ga, (r1.more fun b m => (new b m).imp id (·.1)).keep k2⟩ (p.back k1)) (List.pairwise_cons.mpr ⟨fun u hu b n e => ?_, dis⟩)
  · rcases new b m with (rfl | h) | h
    · exact .inr ⟨ea, dom_some (k2 _ _ ga)⟩
    · exact .inl h
    · exact .inr ⟨Gos.back k1 h.1, h.2⟩
  · cases e
    exact p.notin na (dom_some ga) u hu

theorem slotM {env : Env} {h : Heap} {M : Addr → Prop} {ρ : List S} {oa : Nat → Addr} {i : Nat} {x : Str} {kd : VK} {c : Addr} (eo : EnvOk Γ env ρ h M oa) (hx : Γ[i]? = some (x, kd)) (sc : SlotAt env x kd c) : M c := by
  rcases sc with ⟨rfl, rfl⟩ | ⟨rfl, e⟩
  · exact eo.ML
  · obtain ⟨c', ov, h1, _, h3, _⟩ := eo.cel i x hx
    rw [e] at h1; cases h1; exact h3

inductive Stores (Γ : Lay) (env : Env) : List (Value → Sem Unit) → List Nat → Prop
  | nil : Stores Γ env [] []
  | cons {st : Value → Sem Unit} {i : Nat} {x : Str} {kd : VK} {sts : List (Value → Sem Unit)} {is : List Nat} : Γ[i]? = some (x, kd) → kd ≠ .no →
      (∀ (Mo : Model) (A : Around) (E : Value → Shared → Prop) (s : Shared) (Q : Unit → Shared → Prop) v, wpAny Mo A (storeName env x v) Q E s → wpAny Mo A (st v) Q E s) → Stores Γ env sts is → Stores Γ env (st :: sts) (i :: is)
theorem Stores.app {env : Env} {sts sts' : List (Value → Sem Unit)} {is is' : List Nat} (p : Stores Γ env sts is) (q : Stores Γ env sts' is') : Stores Γ env (sts ++ sts') (is ++ is') := by
  induction p with
  | nil => exact q
  | cons a b c _ ih => exact .cons a b c ih
theorem Stores.rev {env : Env} {sts : List (Value → Sem Unit)} {is : List Nat} (p : Stores Γ env sts is) : Stores Γ env sts.reverse is.reverse := by
  induction p with
  | nil => exact .nil
  | cons a b c _ ih => simp only [List.reverse_cons]; exact ih.app (.cons a b c .nil)

noncomputable def uits : List Nat → List It → List S → Option (List S)
  | [], [], ρ => some ρ
  | i :: is, .e d :: its, ρ => uits is its (sset ρ i (.fr d))
  | i :: is, .f p :: its, ρ => uits is its (sset ρ i (.own p))
  | _, _, _ => none
theorem uits_len : ∀ {is : List Nat} {its : List It} {ρ ρ' : List S}, uits is its ρ = some ρ' → is.length = its.length
  | [], [], _, _, _ => rfl
  | i :: is, .e d :: its, ρ, ρ', e => by simp [uits_len (is := is) (its := its) (show uits is its (sset ρ i (.fr d)) = some ρ' from e)]
  | i :: is, .f d :: its, ρ, ρ', e => by simp [uits_len (is := is) (its := its) (show uits is its (sset ρ i (.own d)) = some ρ' from e)]
  | [], _ :: _, _, _, e => by cases e
  | _ :: _, [], _, _, e => by cases e

theorem storeIts {env : Env} {sts : List (Value → Sem Unit)} {is : List Nat} (sS : Stores Γ env sts is) : ∀ {A : Around} {s : Shared} {hb : PH} {h0 : Heap} {M₀ N : Addr → Prop} {ρ ρ' : List S} {oa : Nat → Addr} {vs : List Value} {its : List It} {Q : Unit → Shared → Prop} {E : Value → Shared → Prop},
    Cx W n Γ G A env hb M₀ → St Γ env hb M₀ ρ s.heap N oa → PKeep hb h0 → h0.get? env.locals ≠ none → (∀ c x kd (i : Nat), Γ[i]? = some (x, kd) → SlotAt env x kd c → h0.get? c ≠ none) → Pt h0 s.heap N vs its → Dis N vs → (∀ j es, sget ρ j = .own es → ∀ u ∈ vs, u ≠ .ref (oa j)) → uits is its ρ = some ρ' →
    (∀ h' tk oa', Step N s.heap N h' → St Γ env hb M₀ ρ' h' N oa' → Q () { s with heap := h', toks := tk }) → wpAny (model W.prog W.w) A (assignInOrder sts vs) Q E s := by
  induction sS with
  | nil =>
    intro A s hb h0 M₀ N ρ ρ' oa vs its Q E cx t k0 hL hS p dis ap e q
    cases its with
    | cons i r => cases i <;> cases e
    | nil => cases e; cases p; exact wpAny_pure (q s.heap s.toks oa (.refl _ _) t)
  | cons hx hk hst sS ih =>
    rename_i st i x kd sts is
    intro A s hb h0 M₀ N ρ ρ' oa vs its Q E cx t k0 hL hS p dis ap e q
    have go : ∀ v σ a' vs its, Fits env.locals ρ oa s.heap N i σ v a' → (∀ ds, σ = .own ds → hb.get? a' = none) → (∀ ds, σ = .own ds → ∀ u ∈ vs, u ≠ .ref a') → Pt h0 s.heap N vs its → Dis N vs → (∀ j es, sget ρ j = .own es → ∀ u ∈ vs, u ≠ .ref (oa j)) → uits is its (sset ρ i σ) = some ρ' →
        wpAny (model W.prog W.w) A (do holding vs (st v); assignInOrder sts vs) Q E s := fun v σ a' vs its fit fr dd p dis ap e => by
      refine wpAny_bind (wpAny_holding (hst _ _ _ _ _ _ (St.store cx t hx hk fit fr fun h' tk c sc mc hs t' => ?_)))
      refine ih cx t' k0 hL hS (p.same hs mc (hS c _ _ i hx sc)) dis (fun j es hj u hu => ?_) e fun h2 tk2 oa2 st2 t2 => q h2 tk2 oa2 ((Step.same mc hs).trans st2) t2
      · rcases sset_cases hj (by simp) with ⟨rfl, q⟩ | ⟨ij, q⟩
        · rw [upd_self]; exact dd es q.symm u hu
        · rw [upd_ne ij]; exact ap j es q u hu
    cases p with
    | nil => cases e
    | e r p => exact go _ (.fr _) 0 _ _ ⟨⟨_, rfl, r⟩, fun _ e => by (cases e), fun _ e => by cases e⟩ (fun _ e => by cases e) (fun _ e => by cases e) p (List.pairwise_cons.mp dis).2 (fun j es hj u hu => ap j es hj u (.tail _ hu)) e
    | f a b g p =>
      have dd := List.pairwise_cons.mp dis
      exact go _ (.own _) _ _ _ ⟨⟨rfl, b, g⟩, fun _ _ e => hL (e ▸ a), fun _ _ j es ij hj e => ap j es hj _ (.head _) (by rw [e])⟩ (fun _ _ => k0.back a) (fun _ _ u hu => dd.1 u hu _ b rfl) p dd.2 (fun j es hj u hu => ap j es hj u (.tail _ hu)) e

/- the shape of the statement -/
noncomputable def locNames (Γ : Lay) (line : Nat) : List Expr → List Nat → List Str
  | .Name id pos :: ts, i :: is => (match Γ[i]? with
      | some (_, .loc) => if pos.line == line then id :: locNames Γ line ts is else locNames Γ line ts is
      | _ => locNames Γ line ts is)
  | _, _ => []
theorem locNames_eq {k : Nat} {env : Env} {line : Nat} (es : EnvS Γ G env) {ts : List Expr} {is : List Nat} (N : Names Γ k ts is) : (ts.filterMap fun
    | .Name id pos => if env.kindOf id == some .local && pos.line == line then some id else none
    | _ => none) = locNames Γ line ts is := by
  induction N with
  | nil => rfl
  | cons i h1 h2 h3 N ih =>
    rename_i x kd p ts is
    have e0 : locNames Γ line (.Name x p :: ts) (i :: is) = (match Γ[i]? with
      | some (_, .loc) => if p.line == line then x :: locNames Γ line ts is else locNames Γ line ts is
      | _ => locNames Γ line ts is) := rfl
    rw [List.filterMap_cons, ih, e0]
    cases kd with
    | no => exact absurd rfl h2
    | loc =>
      simp only [es.loc i x h1, h1]
      by_cases hl : (p.line == line) = true
      · simp only [beq_self_eq_true, Bool.true_and, if_pos hl]
      · simp only [beq_self_eq_true, Bool.true_and, if_neg hl]
    | cel =>
      simp only [es.cel i x h1, h1]
      rfl
theorem locNames_len {Γ : Lay} {line : Nat} : ∀ {ts : List Expr} {is : List Nat}, (locNames Γ line ts is).length ≤ ts.length
  | [], _ => by simp [locNames]
  | t :: ts, [] => by cases t <;> simp [locNames]
  | t :: ts, i :: is => by
    have ih := @locNames_len Γ line ts is
    cases t <;> simp only [locNames, List.length_nil, List.length_cons, Nat.zero_le]
    split
    · split
      · simp only [List.length_cons]; omega
      · omega
    · omega
theorem locNames_stores {k : Nat} {env : Env} {line : Nat} {ts : List Expr} {is : List Nat} (N : Names Γ k ts is) (h : (locNames Γ line ts is).length = ts.length) : Stores Γ env ((locNames Γ line ts is).map fun n => bindName env n) is := by
  induction N with
  | nil => exact .nil
  | cons i h1 h2 h3 N ih =>
    rename_i x kd p ts is
    have hle := @locNames_len Γ line ts is
    cases kd with
    | no => exact absurd rfl h2
    | loc =>
      unfold locNames at h ⊢
      simp only [h1] at h ⊢
      split at h
      · rename_i hl
        rw [if_pos hl]
        simp only [List.length_cons, Nat.add_right_cancel_iff] at h
        exact .cons h1 h2 (fun _ _ _ _ _ _ h => wpAny_bindName h) (ih h)
      · simp only [List.length_cons] at h; omega
    | cel =>
      unfold locNames at h
      simp only [h1, List.length_cons] at h
      omega

noncomputable def swS (Γ : Lay) (ts : List Expr) (is : List Nat) (vs : List Expr) : Option (Option (List Str)) :=
  if !(ts.length == 2 || ts.length == 3) || vs.length != ts.length then some none
  else if vs.any isStarred then some none
  else
    let names := locNames Γ ((ts.head?.map (·.pos.line)).getD 0) ts is
    if names.length != ts.length || names.eraseDups.length != names.length then some none
    else if vs.all (foldedForSure 8) then some none
    else if vs.all (constantsAlone 8) then none
    else some (some names)
theorem blockKind_of {env : Env} (es : EnvS Γ G env) : env.blockKind = .function := by
  unfold Env.blockKind
  rw [es.kind]; rfl
theorem starred_eq : (fun (x : Expr) => match x with | .Starred .. => true | _ => false) = isStarred := by
  funext x; cases x <;> rfl
theorem swappedStores_eq {k x1 x2 : Nat} {p p2 : Pos} {env : Env} (es : EnvS Γ G env) {ts vs : List Expr} {is : List Nat} {r : Option (List Str)} (N : Names Γ k ts is) (h : swS Γ ts is vs = some r) : swappedStores [.Tuple ts x1 p] (.Tuple vs x2 p2) env = pure r := by
  have hb := blockKind_of es
  have hf := locNames_eq (line := (ts.head?.map (·.pos.line)).getD 0) es N
  unfold swS at h
  unfold swappedStores
  dsimp only at h ⊢
  rw [hb]
  erw [hf]
  split at h
  · rename_i h1
    cases h
    have : (!(ts.length == 2 || ts.length == 3) || vs.length != ts.length || (ScopeKind.function != ScopeKind.function)) = true := by rw [h1]; rfl
    rw [if_pos this]
  · rename_i h1
    have : ¬ (!(ts.length == 2 || ts.length == 3) || vs.length != ts.length || (ScopeKind.function != ScopeKind.function)) = true := by
      intro h; apply h1
      rw [Bool.or_eq_true] at h
      rcases h with h | h
      · exact h
      · exact absurd h (by decide)
    rw [if_neg this]
    split at h
    · rename_i h2
      cases h
      exact if_pos ((congrArg (vs.any ·) starred_eq).trans h2)
    · rename_i h2
      refine (if_neg (fun hh => h2 ((congrArg (vs.any ·) starred_eq).symm.trans hh))).trans ?_
      split at h
      · rename_i h3
        cases h
        rw [if_pos h3]
      · rename_i h3
        rw [if_neg h3]
        split at h
        · rename_i h4
          cases h
          rw [if_pos h4]
        · rename_i h4
          rw [if_neg h4]
          split at h
          · cases h
          · rename_i h5
            cases h
            rw [if_neg h5]

noncomputable def nextR : Option (List S) → Option Fl
  | some ρ => some (.next ρ)
  | none => none
theorem nextR_some {x : Option (List S)} {fl : Fl} (h : nextR x = some fl) : ∃ ρ, x = some ρ ∧ fl = .next ρ := by
  cases x with
  | none => cases h
  | some ρ => exact ⟨ρ, rfl, (Option.some.inj h).symm⟩

theorem swS_some {ts vs : List Expr} {is : List Nat} {names : List Str} (hw : swS Γ ts is vs = some (some names)) : names = locNames Γ ((ts.head?.map (·.pos.line)).getD 0) ts is ∧ names.length = ts.length ∧ ts.length ≤ 3 := by
  unfold swS at hw
  dsimp only at hw
  split at hw
  · cases hw
  split at hw
  · cases hw
  split at hw
  · cases hw
  split at hw
  · cases hw
  split at hw
  · cases hw
  · rename_i h1 _ h3 _ _
    cases hw
    refine ⟨rfl, ?_, ?_⟩
    · simp only [Bool.or_eq_true, bne_iff_ne, ne_eq, not_or, Classical.not_not] at h3
      exact h3.1
    · simp at h1
      omega

/-- (a, b) = (e1, e2): values swapped on the machine's own stack -/
theorem DenO.tupS {k x1 x2 : Nat} {p p2 pos : Pos} {ts vs : List Expr} {is isr : List Nat} {fs : List S → Option (List It)} {names : List Str} (N : Names Γ k ts is) (ha : DenIts W n Γ G vs fs) (hw : swS Γ ts is vs = some (some names) := by decide +kernel) (hr : isr = is.reverse := by rfl) :
    DenO W n Γ G (.Assign [.Tuple ts x1 p] (.Tuple vs x2 p2) pos) (fun ρ => bind1 (fun its => nextR (uits isr its.reverse ρ)) (fs ρ)) := fun A env s hb M₀ M ρ oa fl Q E cx t e q => by
  subst hr
  obtain ⟨its, e1, e2⟩ := bind1_some e
  obtain ⟨ρ', e3, rfl⟩ := nextR_some e2
  have hw1 := swappedStores_eq (x1 := x1) (x2 := x2) (p := p) (p2 := p2) cx.es N hw
  obtain ⟨hn1, hn2, hn3⟩ := swS_some hw
  refine Assign_Tuple_swapped ?_ rfl hw1
  refine wpAny_Tuple (ha A env s M ρ oa its _ E p2 (cx.pre t) e1 fun us h1 tk1 N1 k1 sub new pt dis => ?_)
  have hlen : us.length = ts.length := by
    rw [pt.length, N.len]
    have := uits_len e3
    simpa using this.symm
  refine ⟨by rw [hlen, sizeLine_eq]; omega, ?_⟩
  have hz := get_size h1
  have g := Heap.get?_push_size h1 (o := tupO us 0) rfl
  have kp : Keep h1 (h1.push (tupO us 0)) := Keep.push _ _
  rw [show names.length = us.toArray.size by rw [hn2, List.size_toArray, hlen]]
  refine wpAny_unpackItems_tuple cx.ok.hd (isTup_of g) fun h2 k2 => ?_
  have kk : Keep h1 h2 := kp.trans (extBut_size k2)
  have st0 : Step M s.heap N1 h2 := ⟨fun b o _ e => kk b o (k1 b o e), fun a m => (new a m).imp id (·.1)⟩
  have t2 : St Γ env hb M₀ ρ h2 N1 oa := (t.grow k1 sub new).keep kk
  have ap : ∀ j es, sget ρ j = .own es → ∀ u ∈ us.reverse, u ≠ .ref (oa j) := fun j es hj u hu => pt.notin (sub _ (t.env.own j es hj)) (t.env.dom _ (t.env.own j es hj)) u (List.mem_reverse.mp hu)
  have hst : Stores Γ env (names.reverse.map fun n => bindName env n) is.reverse := by
    rw [List.map_reverse, hn1]
    exact (locNames_stores N (by rw [← hn1]; exact hn2)).rev
  refine storeIts hst (s := { s with heap := h2, toks := tk1 }) cx t2 t.kb (t.env.dom _ t.env.ML) (fun c x kd i hx sc => t.env.dom _ (slotM t.env hx sc)) (pt.rev.keep kk) (by simpa using dis.rev) ap e3 fun h3 tk3 oa3 st3 t3 => ?_
  exact q h3 tk3 N1 oa3 (st0.trans st3) t3

theorem Names.stores {k : Nat} {env : Env} {es : List Expr} {is : List Nat} (N : Names Γ k es is) : Stores Γ env (es.map fun e => PySem.assign e env) is := by
  induction N with
  | nil => exact .nil
  | cons i h1 h2 h3 N ih => exact .cons h1 h2 (fun _ _ _ _ _ _ h => wpAny_assign_Name h) ih

/-- a, b = (e1, e2): a tuple is built and taken apart -/
theorem DenO.tupP {k x1 x2 : Nat} {p p2 pos : Pos} {ts vs : List Expr} {is : List Nat} {fs : List S → Option (List It)} (N : Names Γ k ts is) (ha : DenIts W n Γ G vs fs) (hw : swS Γ ts is vs = some none := by decide +kernel) (hl : Nat.ble ts.length 8 = true := by rfl) :
    DenO W n Γ G (.Assign [.Tuple ts x1 p] (.Tuple vs x2 p2) pos) (fun ρ => bind1 (fun its => nextR (uits is its ρ)) (fs ρ)) := fun A env s hb M₀ M ρ oa fl Q E cx t e q => by
  obtain ⟨its, e1, e2⟩ := bind1_some e
  obtain ⟨ρ', e3, rfl⟩ := nextR_some e2
  have hw1 := swappedStores_eq (x1 := x1) (x2 := x2) (p := p) (p2 := p2) cx.es N hw
  refine Assign_Tuple ?_ rfl hw1
  refine wpAny_Tuple (ha A env s M ρ oa its _ E p2 (cx.pre t) e1 fun us h1 tk1 N1 k1 sub new pt dis => ?_)
  have hlen : us.length = ts.length := by
    rw [pt.length, N.len, uits_len e3]
  have hl' : ts.length ≤ 8 := Nat.le_of_ble_eq_true hl
  refine ⟨by rw [hlen, sizeLine_eq]; omega, ?_⟩
  have hz := get_size h1
  have g := Heap.get?_push_size h1 (o := tupO us 0) rfl
  have kp : Keep h1 (h1.push (tupO us 0)) := Keep.push _ _
  obtain ⟨n1, n2, n3⟩ := N.each (env := env)
  refine wpAny_assign_Tuple cx.ok.hd (isTup_of g) (by rw [n1, ← hlen]; simp) n2 fun h2 k2 => ?_
  have kk : Keep h1 h2 := kp.trans (extBut_size k2)
  have st0 : Step M s.heap N1 h2 := ⟨fun b o _ e => kk b o (k1 b o e), fun a m => (new a m).imp id (·.1)⟩
  have t2 : St Γ env hb M₀ ρ h2 N1 oa := (t.grow k1 sub new).keep kk
  have ap : ∀ j es, sget ρ j = .own es → ∀ u ∈ us, u ≠ .ref (oa j) := fun j es hj u hu => pt.notin (sub _ (t.env.own j es hj)) (t.env.dom _ (t.env.own j es hj)) u hu
  rw [n3]
  refine storeIts N.stores (s := { s with heap := h2, toks := tk1 }) cx t2 t.kb (t.env.dom _ t.env.ML) (fun c x kd i hx sc => t.env.dom _ (slotM t.env hx sc)) (pt.keep kk) dis ap e3 fun h3 tk3 oa3 st3 t3 => ?_
  exact q h3 tk3 N1 oa3 (st0.trans st3) t3

/-- a, b = e for a tuple's value -/
noncomputable def isTupleE : Expr → Bool
  | .Tuple .. => true
  | .List .. => true
  | _ => false
theorem DenO.tupV {k x1 : Nat} {p pos : Pos} {ts : List Expr} {e : Expr} {is : List Nat} {f : List S → Option D} (N : Names Γ k ts is) (ha : DenE W n Γ G e f) (ht : ∀ env, swappedStores [.Tuple ts x1 p] e env = pure none := by intro _; rfl)
    (hs : ∀ env, swapsWithSole [.Tuple ts x1 p] e pos.line env = pure false := by intro _; rfl) : DenO W n Γ G (.Assign [.Tuple ts x1 p] e pos) (fun ρ => bind1 (fun d => nextR (utupD is d ρ)) (f ρ)) := fun A env s hb M₀ M ρ oa fl Q E cx t e' q => by
  obtain ⟨d, e1, e2⟩ := bind1_some e'
  obtain ⟨ρ', e3, rfl⟩ := nextR_some e2
  refine Assign_Tuple (ha A env s M ρ oa d _ E (cx.pre t) e1 fun v h1 tk1 k1 r1 => ?_) (hs env) (ht env)
  have t1 := t.keep k1
  refine (DenTg.tup (W := W) (G := G) (x1 := x1) (p := p) N) A env { s with heap := h1, toks := tk1 } M ρ oa v d ρ' _ E ⟨cx.ok.hd, by have := cx.ok.dp; omega, by have := cx.ok.un; omega⟩ cx.es t1.env r1 e3 fun h3 tk3 c1 c2 c3 eo3 => ?_
  have tgF : ∀ b, TgA Γ env k b → hb.get? b = none := fun b x => by
    rcases x with rfl | ⟨i, x, _, hx, hc⟩
    · exact cx.lF
    · exact cx.cF i x b hx hc
  have st3 : Step M h1 M h3 := ⟨c2, fun _ x => .inl x⟩
  exact q h3 tk3 M oa ((Step.of_keep k1).trans st3) ⟨eo3, fun b o e => c1 b o (fun x => by rw [tgF b x] at e; cases e) (t1.kb b o e), t1.sub, t1.new, fun j ds e => t1.oF j ds (c3 j ds e)⟩
end
end Gos
end

section
open PySem PySem.W PyProof.Rows
namespace Gos
open PySem

section
variable {W : Gl} {n : Nat} {Γ : Lay} {G : List Str}

/-- fewer mutable addresses, another heap -/
theorem EnvOk.shrink {env : Env} {ρ : List S} {h h' : Heap} {M M' : Addr → Prop} {oa : Nat → Addr} (eo : EnvOk Γ env ρ h M oa) (sub : ∀ b, M' b → M b) (kM : ∀ b o, M' b → h.get? b = some o → h'.get? b = some o) (kT : Trees h M h' M')
    (mL : M' env.locals) (mC : ∀ c ov, M c → h.IsCell c ov → M' c) (mO : ∀ i ds, sget ρ i = .own ds → M' (oa i)) : EnvOk Γ env ρ h' M' oa := by
  have hns : h'.Ns env.locals (h.nsMap env.locals) := eo.ns.at' fun o g => kM _ _ mL g
  have hm := hns.eq_nsMap
  have sv : ∀ {i : Nat} {ov : Option Value}, SV h M (oa i) (sget ρ i) ov → SV h' M' (oa i) (sget ρ i) ov := fun {i ov} x =>
    x.to kT fun p e => ⟨mO i p e, fun o g => kM _ _ (mO i p e) g⟩
  refine ⟨hm ▸ hns, mL, fun a m e => ?_, fun i x hx => ?_, fun i x hx => ?_, eo.apart, mO, eo.oL⟩
  · cases g : h.get? a with
    | none => exact eo.dom a (sub a m) g
    | some o => rw [kM a o m g] at e; cases e
  · rw [← hm]; exact sv (eo.loc i x hx)
  · obtain ⟨c, ov, h1, h2, h3, h4⟩ := eo.cel i x hx
    have m' := mC c ov h3 h2
    obtain ⟨o, g, dd⟩ := h2
    exact ⟨c, ov, h1, ⟨o, kM _ _ m' g, dd⟩, m', sv h4⟩

/-- a namespace that the frame does not stand on has turned -/
theorem Trees.offNs {h h' : Heap} {M M' : Addr → Prop} {C : Addr} (hC : M C) (hs : Heap.SameBut C h h') (sub : ∀ b, M' b → M b) : Trees h M h' M' := fun b o m g _ => ⟨fun x => m (sub b x), (hs.2 b fun x => m (x ▸ hC)).trans g⟩

/-- x = [..] where the machine stores x before the clause's names go -/
theorem exch_core {i : Nat} {x : Str} {kd : VK} {p pos cp : Pos} {tg iter elt : Expr} {ifs : List Expr} {rest : List Comprehension} {sc : Scope} {tl : Nat} {Γ' : Lay} {G' : List Str}
    {A : Around} {env : Env} {s : Shared} {hb : PH} {M₀ M : Addr → Prop} {ρ : List S} {oa : Nat → Addr} {Q : Flow → Shared → Prop} {E : Value → Shared → Prop} {res : List D} (own : Bool)
    (cs : CompS Γ G sc tl Γ' G') (hx : Γ[i]? = some (x, kd)) (hk : kd ≠ .no)
    (hsw : swapsWith (.ListComp elt (⟨tg, iter, ifs, 0⟩ :: rest) sc cp) (some (.Name x p)) pos.line env = pure true) (hns : notSet iter = true)
    (cx : Cx W n Γ G A env hb M₀) (st : St Γ env hb M₀ ρ s.heap M oa)
    (hrun : ∀ RR : Value → Addr → Result → Shared → Prop, (∀ a C vs k m h' tk, Keep s.heap h' → s.heap.get? a = none → s.heap.get? C = none → a ≠ C → h'.Ns C m → h'.get? a = some (lstO vs k) → RelAll h' (fun b => b = a ∨ b = C ∨ M b) vs res → RR (.ref a) C (.ok .next) { s with heap := h', toks := tk }) →
      wpAny (model W.prog W.w) A (eval iter env) (fun x s₁ => wpAny (model W.prog W.w) A (pyIter x) (fun it s₂ => wpAny (model W.prog W.w) A (newList []) (fun acc s₃ =>
        wpAny (model W.prog W.w) A (newFunctionEnv sc env.globals (clOf env.cells sc.names []) [] env.qual none .none (some env)) (fun cenv s₄ =>
          codeAny (model W.prog W.w) A (.compStart (.ListComp elt (⟨tg, iter, ifs, 0⟩ :: rest) sc cp) 0 it acc { cenv with scope := relabel sc env }) (RR acc cenv.locals) s₄) E s₃) E s₂) E s₁) E s)
    (q : ∀ h' tk M' oa', Step M s.heap M' h' → St Γ env hb M₀ (sset ρ i (if own then .own (.lst res) else .fr (.list res))) h' M' oa' → Q .next { s with heap := h', toks := tk }) :
    wpAny (model W.prog W.w) A (exec (.Assign [.Name x p] (.ListComp elt (⟨tg, iter, ifs, 0⟩ :: rest) sc cp) pos) env) Q E s := by
  have P := cx.pre st
  rw [exec_Assign_Name_used (x := x) (pos' := p) (pos := pos) (hs := hsw)]
  refine wpAny_bind (wpAny_standAt (wpAny_bind ?_))
  show wpAny _ A (do let _ ← comprehension (.ListComp elt (⟨tg, iter, ifs, 0⟩ :: rest) sc cp) sc env _ (newList []) false (eval iter env) (some (PySem.assign (.Name x p) env))) _ _ s
  refine wpAny_bind (wpAny_mono (wpAny_comprehension_free (Q := fun _ s' => Q .next s') rfl (folded_notSet hns) (closureFor_eq fun x hx hf => ?_) cs.kind (fun x hx hl => by rw [cs.names x hx, hl])
    (hrun (fun acc C r s' => compPost (model W.prog W.w) A E (some (PySem.assign (.Name x p) env)) (fun _ s' => Q .next s') acc C r s') ?_)) (fun _ s' hq => wpAny_pure (wpAny_pure hq)) fun _ _ e => e)
  · obtain ⟨i, hi⟩ := cs.free x hx hf
    obtain ⟨c, _, h, _⟩ := P.env.cel _ _ hi
    exact ⟨c, h⟩
  · intro a C vs k m h' tk kk ha hC hne hns ga hv
    have growL : ∀ M1 : Addr → Prop, (∀ b, M b → M1 b) → (∀ b, M1 b → b = a ∨ b = C ∨ M b) → St Γ env hb M₀ ρ h' M1 oa := fun M1 sub up => st.grow kk sub fun b mb => by
      rcases up b mb with rfl | rfl | y
      · exact .inr ⟨ha, dom_some ga⟩
      · obtain ⟨o, _, _, g, _⟩ := hns
        exact .inr ⟨hC, dom_some g⟩
      · exact .inl y
    have fin : ∀ (M1 M2 : Addr → Prop) σ a', (∀ b, M b → M1 b) → (∀ b, M1 b → b = a ∨ b = C ∨ M b) → (∀ b, M2 b ↔ (M1 b ∧ b ≠ C)) → M1 C → Fits env.locals ρ oa h' M1 i σ (.ref a) a' → (∀ ds, σ = .own ds → a' = a ∧ M1 a) → (σ = if own then .own (.lst res) else .fr (.list res)) →
        wpAny (model W.prog W.w) A (PySem.assign (.Name x p) env (.ref a)) (fun _ s'' => ∃ m, s''.heap.Ns C m ∧ ∀ h', Heap.SameBut C s''.heap h' → Q .next { s'' with heap := h' }) E { s with heap := h', toks := tk } := fun M1 M2 σ a' sub up hM2 mC1 fit hown hσ => by
      have t1 := growL M1 sub up
      refine wpAny_assign_Name (St.store (s := { s with heap := h', toks := tk }) cx t1 hx hk fit (fun ds e => by rw [(hown ds e).1]; exact st.kb.back ha) fun h2 tk2 c sc mc hs t2 => ?_)
      have mc0 : M c := slotM st.env hx sc
      have cC : c ≠ C := fun e => st.env.dom c mc0 (e ▸ hC)
      have hns2 : h2.Ns C m := hns.sameBut hs (Ne.symm cC)
      refine ⟨m, hns2, fun h3 hs3 => ?_⟩
      have sub2 : ∀ b, M2 b → M1 b := fun b hb => ((hM2 b).mp hb).1
      have key : ∀ b o, b ≠ C → h2.get? b = some o → h3.get? b = some o := fun b o nb e => (hs3.2 b nb).trans e
      have eo3 : EnvOk Γ env (sset ρ i σ) h3 M2 (upd oa i a') := t2.env.shrink sub2 (fun b o mb e => key b o ((hM2 b).mp mb).2 e) (Trees.offNs mC1 hs3 sub2)
        ((hM2 _).mpr ⟨sub _ st.env.ML, fun e => st.env.dom _ st.env.ML (e ▸ hC)⟩) (fun c ov m1 hc => (hM2 _).mpr ⟨m1, Ne.symm (ns_ne_cell hns2 hc)⟩) (fun j es hj => (hM2 _).mpr (by
          rcases sset_cases hj (by simp) with ⟨rfl, q⟩ | ⟨ij, q⟩
          · obtain ⟨q1, q2⟩ := hown es q.symm
            rw [upd_self, q1]; exact ⟨q2, hne⟩
          · rw [upd_ne ij]
            have := st.env.own j _ q
            exact ⟨sub _ this, fun e => st.env.dom _ this (e ▸ hC)⟩))
      have t3 : St Γ env hb M₀ (sset ρ i σ) h3 M2 (upd oa i a') := ⟨eo3, fun b o e => key b o (fun x => by
          have : h'.get? C ≠ none := by obtain ⟨o, _, _, g, _⟩ := hns; exact dom_some g
          rw [x, st.kb.back hC] at e; cases e) (t2.kb b o e), fun b mb => (hM2 b).mpr ⟨t2.sub b mb, fun e => cx.dom b mb (st.kb.back (e ▸ hC))⟩, fun b mb => t2.new b (sub2 b mb), t2.oF⟩
      refine q h3 _ M2 _ ⟨fun b o nb e => ?_, fun b mb => ?_⟩ (hσ ▸ t3)
      · have bC : b ≠ C := fun x => by rw [x, hC] at e; cases e
        refine key b o bC ((hs.2 b fun x => nb (x ▸ mc0)).trans (kk b o e))
      · rcases up b (sub2 b mb) with rfl | rfl | y
        · exact .inr ha
        · exact absurd rfl ((hM2 _).mp mb).2
        · exact .inl y
    cases own with
    | true => exact fin (fun b => b = a ∨ b = C ∨ M b) (fun b => (b = a ∨ b = C ∨ M b) ∧ b ≠ C) (.own (.lst res)) a (fun b m => .inr (.inr m)) (fun b m => m) (fun b => Iff.rfl) (.inr (.inl rfl)) ⟨⟨rfl, .inl rfl, vs, k, ga, hv⟩, fun _ _ e => st.env.dom _ st.env.ML (e ▸ ha), fun _ _ j es _ hj e => st.env.dom _ (st.env.own j es hj) (e ▸ ha)⟩ (fun _ e => ⟨rfl, .inl rfl⟩) rfl
    | false => exact fin (fun b => b = C ∨ M b) (fun b => (b = C ∨ M b) ∧ b ≠ C) (.fr (.list res)) 0 (fun b m => .inr m) (fun b m => .inr m) (fun b => Iff.rfl) (.inl rfl) ⟨⟨_, rfl, .lst (fun m => m.elim (fun e => hne e) fun m => st.env.dom _ m ha) ga (hv.less fun b m => .inr m)⟩, fun _ e => by (cases e), fun _ e => by cases e⟩ (fun _ e => by cases e) rfl

/-- the static side of an exchange -/
theorem swaps_true {env : Env} {x : Str} {p cp : Pos} {line : Nat} {elt : Expr} {gens : List Comprehension} {sc : Scope} {i : Nat} (es : EnvS Γ G env) (hx : Γ[i]? = some (x, VK.loc)) (hl : (p.line == cp.line) = true) (hn : (sc.names.any fun (n, k) => n == x && (k == .local || k == .cell)) = false) :
    swapsWith (.ListComp elt gens sc cp) (some (.Name x p)) line env = pure true := by
  show (pure (env.blockKind == .function && env.kindOf x == some .local && p.line == cp.line && !(sc.names.any fun (n, k) => n == x && (k == .local || k == .cell))) : Sem Bool) = _
  rw [blockKind_of es, es.loc i x hx, hl, hn]; rfl
theorem swaps_cel {env : Env} {x : Str} {p cp : Pos} {line : Nat} {elt : Expr} {gens : List Comprehension} {sc : Scope} {i : Nat} (es : EnvS Γ G env) (hx : Γ[i]? = some (x, VK.cel)) :
    swapsWith (.ListComp elt gens sc cp) (some (.Name x p)) line env = pure false := by
  show (pure (env.blockKind == .function && env.kindOf x == some .local && p.line == cp.line && !(sc.names.any fun (n, k) => n == x && (k == .local || k == .cell))) : Sem Bool) = _
  rw [blockKind_of es, es.cel i x hx]; rfl

theorem DenO.compE (i : Nat) {x : Str} {p pos cp : Pos} {tg iter elt : Expr} {ifs : List Expr} {sc : Scope} {tl : Nat} {Γ' : Lay} {G' : List Str} {u : D → List S → Option (List S)} {t : List S → Option Bool} {g : List S → Option D} {fs : List S → Option (List D)}
    (cs : CompS Γ G sc tl Γ' G') (hi : DenI W n Γ G tg iter fs) (hu : DenTg W Γ' G' tl tg u) (ht : DenIfs W n Γ' G' ifs t) (hg : DenE W n Γ' G' elt g) (hx : Γ[i]? = some (x, VK.loc) := by rfl) (hl : (p.line == cp.line) = true := by rfl)
    (hn : (sc.names.any fun (n, k) => n == x && (k == .local || k == .cell)) = false := by decide +kernel) (hns : notSet iter = true := by rfl) :
    DenO W n Γ G (.Assign [.Name x p] (.ListComp elt [⟨tg, iter, ifs, 0⟩] sc cp) pos) (fun ρ => setE i ρ (elst (bind1 (fun ds => bind1 elist (compL u t g ds (unbs tl ρ))) (fs ρ)))) := fun A env s hb M₀ M ρ oa fl Q E cx st e q => by
  dsimp only at e
  cases hf : bind1 (fun ds => bind1 elist (compL u t g ds (unbs tl ρ))) (fs ρ) with
  | none => rw [hf] at e; cases e
  | some res =>
    rw [hf] at e; cases e
    obtain ⟨ds, e1, e2⟩ := bind1_some hf
    obtain ⟨res', e2, e3⟩ := bind1_some e2
    unfold elist at e3
    split at e3
    · rename_i hsm
      cases e3
      exact exch_core false cs hx (by decide) (swaps_true cx.es hx hl hn) hns cx st (fun RR h => comp_run (RR := RR) (cx.pre st) cs hi hu ht hg e1 e2 hsm h) q
    · cases e3
theorem DenO.compO (i : Nat) {x : Str} {p pos cp : Pos} {tg iter elt : Expr} {ifs : List Expr} {sc : Scope} {tl : Nat} {Γ' : Lay} {G' : List Str} {u : D → List S → Option (List S)} {t : List S → Option Bool} {g : List S → Option D} {fs : List S → Option (List D)}
    (cs : CompS Γ G sc tl Γ' G') (hi : DenI W n Γ G tg iter fs) (hu : DenTg W Γ' G' tl tg u) (ht : DenIfs W n Γ' G' ifs t) (hg : DenE W n Γ' G' elt g) (hx : Γ[i]? = some (x, VK.loc) := by rfl) (hl : (p.line == cp.line) = true := by rfl)
    (hn : (sc.names.any fun (n, k) => n == x && (k == .local || k == .cell)) = false := by decide +kernel) (hns : notSet iter = true := by rfl) :
    DenO W n Γ G (.Assign [.Name x p] (.ListComp elt [⟨tg, iter, ifs, 0⟩] sc cp) pos) (fun ρ => setF i ρ (bind1 (fun ds => bind1 elist (compL u t g ds (unbs tl ρ))) (fs ρ))) := fun A env s hb M₀ M ρ oa fl Q E cx st e q => by
  dsimp only at e
  cases hf : bind1 (fun ds => bind1 elist (compL u t g ds (unbs tl ρ))) (fs ρ) with
  | none => rw [hf] at e; cases e
  | some res =>
    rw [hf] at e; cases e
    obtain ⟨ds, e1, e2⟩ := bind1_some hf
    obtain ⟨res', e2, e3⟩ := bind1_some e2
    unfold elist at e3
    split at e3
    · rename_i hsm
      cases e3
      exact exch_core true cs hx (by decide) (swaps_true cx.es hx hl hn) hns cx st (fun RR h => comp_run (RR := RR) (cx.pre st) cs hi hu ht hg e1 e2 hsm h) q
    · cases e3

/- lists joined and repeated -/
noncomputable def laddF : D → D → Option (List D)
  | .list xs, .list ys => if small (xs ++ ys) then some (xs ++ ys) else none
  | _, _ => none
theorem fresh_post {h h' : Heap} {M : Addr → Prop} {vs : List Value} {ds : List D} (r : RelAll h M vs ds) : RelAll (h.push (lstO vs 0)) (fun b => b = h.objs.size ∨ M b) vs ds :=
  (r.more fun b m => m.elim (fun x => .inr (x ▸ get_size h)) .inl).keep (Keep.push _ _)
theorem sem_addF : BinSemF W .Add laddF := fun A s M va vb da db d Q E ok dom ra rb e q => by
  unfold laddF at e
  split at e
  · split at e
    · rename_i xs ys hs
      cases e
      cases ra with
      | lst m1 g1 r1 =>
        cases rb with
        | lst m2 g2 r2 =>
          rename_i a vs k b us k2
          have hz := small_le hs
          refine PySem.P.add_list (items := vs.toArray) (items2 := us.toArray) g1 g2 ?_ (by simp only [List.size_toArray, r1.length, r2.length]; rwa [← List.length_append])
          rw [show vs.toArray ++ us.toArray = (vs ++ us).toArray by simp]
          exact q _ (vs ++ us) 0 _ s.toks (Keep.push _ _) (get_size _) (Heap.get?_push_size _ rfl) (fresh_post (h' := s.heap) (r1.append r2))
    · cases e
  · cases e
noncomputable def repD (xs : List D) : Nat → List D
  | 0 => []
  | k + 1 => xs ++ repD xs k
theorem repD_eq (xs : List D) : ∀ k, repD xs k = (List.replicate k xs).flatten
  | 0 => rfl
  | k + 1 => by rw [List.replicate_succ, List.flatten_cons, repD, repD_eq xs k]
theorem rel_rep {h : Heap} {M : Addr → Prop} {vs : List Value} {ds : List D} (r : RelAll h M vs ds) : ∀ k, RelAll h M (List.replicate k vs).flatten (repD ds k)
  | 0 => .nil
  | k + 1 => by rw [List.replicate_succ, List.flatten_cons]; exact r.append (rel_rep r k)
noncomputable def lmulF : D → D → Option (List D)
  | .list xs, .int k => if decide (k ≤ 100000) && decide (-100000 ≤ k) && Nat.ble xs.length 100 then some (repD xs k.toNat) else none
  | _, _ => none
theorem sem_mulF : BinSemF W .Mult lmulF := fun A s M va vb da db d Q E ok dom ra rb e q => by
  unfold lmulF at e
  split at e
  · split at e
    · rename_i xs x hs
      cases e
      have hs1 := Bool.and_eq_true_iff.mp hs
      have hs2 := Bool.and_eq_true_iff.mp hs1.1
      have hx1 : x ≤ 100000 := of_decide_eq_true hs2.1
      have hx2 : -100000 ≤ x := of_decide_eq_true hs2.2
      have hx3 : xs.length ≤ 100 := Nat.le_of_ble_eq_true hs1.2
      cases ra with
      | lst m1 g1 r1 =>
        cases rb with
        | int _ u =>
          rename_i l vs k
          have hl := r1.length
          have hsz : vs.toArray.size * x.toNat ≤ 2 ^ 24 := by
            rw [List.size_toArray, hl]
            exact Nat.le_trans (Nat.mul_le_mul hx3 (by omega : x.toNat ≤ 100000)) (by decide)
          refine wpAny_binaryOp_repeat_ref (T := "list") (U := "int") (by decide) ⟨_, g1, rfl⟩ (fun s' => typeIs_int s' x u) noFill_list_mul F.fills_int_mul F.slot_int_rmul repeat_list F.slot_int_index.lookup
            (call_meets F.slot_int_rmul (typeIs_int s x u) F.entry_int_rmul (F.args_int_rmul_2 _ _) (int___rmul___int_list x u l vs.toArray k)
              ⟨g1, rfl, ⟨_, g1, rfl⟩, call_meets F.slot_list_mul ⟨_, g1, rfl⟩ F.entry_list_mul (F.args_list_mul_2 _ _)
                (AutoListH.list___mul___list_int_3 l vs.toArray k x u (by simp [Builtin.List.listFitsIndex]; omega) (by omega) (by simp [Builtin.List.listTooLong, sizeLine]; omega))
                ⟨g1, ?_⟩⟩)
          rw [listMul_foldl_if]
          exact q _ (List.replicate x.toNat vs).flatten 0 _ s.toks (Keep.push _ _) (get_size _) (Heap.get?_push_size _ rfl) (fresh_post (h' := s.heap) (rel_rep r1 _))
    · cases e
  · cases e

/-- low, high = own.pop() -/
noncomputable def popO (i : Nat) (is : List Nat) (ρ : List S) : Option Fl := match eown i ρ with
  | some xs => if small xs then (match xs.reverse with
    | d :: r => nextR (utupD is d (sset ρ i (.own (.lst r.reverse))))
    | [] => none) else none
  | none => none
theorem popO_some {i : Nat} {is : List Nat} {ρ : List S} {fl : Fl} (h : popO i is ρ = some fl) : ∃ xs d, eown i ρ = some (xs ++ [d]) ∧ small (xs ++ [d]) = true ∧ nextR (utupD is d (sset ρ i (.own (.lst xs)))) = some fl := by
  unfold popO at h
  split at h
  · rename_i ys e
    split at h
    · rename_i hs
      split at h
      · rename_i d r e'
        have : ys = r.reverse ++ [d] := by rw [← List.reverse_reverse ys, e', List.reverse_cons]
        subst this
        exact ⟨_, d, e, hs, h⟩
      · cases h
    · cases h
  · cases h
theorem DenO.pop (i : Nat) {k x1 : Nat} {x : Str} {kd : VK} {ts : List Expr} {is : List Nat} {tp p ap cp pos : Pos} (N : Names Γ k ts is) (hx : Γ[i]? = some (x, kd) := by rfl) (hk : kd ≠ .no := by decide) (hl : (ap.endLine == cp.line) = true := by rfl) :
    DenO W n Γ G (.Assign [.Tuple ts x1 tp] (.Call (.Attribute (.Name x p) "pop" ap) [] [] cp) pos) (popO i is) := fun A env s hb M₀ M ρ oa fl Q E cx t e' q => by
  obtain ⟨xs, d, h1, h2, h3⟩ := popO_some e'
  obtain ⟨ρ', e3, rfl⟩ := nextR_some h3
  have P := cx.pre t
  refine Assign_Tuple ?_ rfl rfl
  refine wpAny_Call_method attrBase_name rfl hl PySem.F.plainAttrs_list PySem.F.slot_list_pop PySem.F.type_list_pop ?_
  refine ownName P i hx hk h1 fun vs c m g r => ⟨lst_type g, fun a ea => by cases ea; exact ⟨_, g, rfl⟩, ?_⟩
  have hlen := r.length
  obtain ⟨us, v, rfl⟩ : ∃ us v, vs = us ++ [v] := by
    have hne : vs ≠ [] := fun e => by rw [e] at hlen; simp at hlen
    exact ⟨vs.dropLast, vs.getLast hne, (List.dropLast_concat_getLast hne).symm⟩
  have hul : us.length = xs.length := by simpa using hlen
  have r' : RelAll s.heap M us xs ∧ Rel s.heap M v d := by
    have h1 := r.take (k := xs.length)
    have h2 := r.drop (k := xs.length)
    rw [List.take_left' hul, List.take_left' rfl] at h1
    rw [List.drop_left' hul, List.drop_left' rfl] at h2
    refine ⟨h1, ?_⟩
    cases h2 with
    | cons x _ => exact x
  refine PySem.P.pop_list (items := (us ++ [v]).toArray) (y := v) g (by simp) ?_ (by rw [List.size_toArray, hlen]; exact small_le h2)
  have g' := IsL.update (h := s.heap) (l := oa i) (items := (us ++ [v]).toArray) (n := c) g (fun xs => xs.eraseIdxIfInBounds ((us ++ [v]).toArray.size - 1))
  have hs : Heap.SameBut (oa i) s.heap (s.heap.update (oa i) (Obj.mapSeq (fun xs => xs.eraseIdxIfInBounds ((us ++ [v]).toArray.size - 1)))) := Heap.SameBut.update ..
  have key : (us ++ [v]).toArray.eraseIdxIfInBounds ((us ++ [v]).toArray.size - 1) = us.toArray := by
    apply Array.ext'
    simp [Array.eraseIdxIfInBounds]
    try (rw [List.eraseIdx_append_of_length_le]; simp; simp)
  rw [key] at g'
  have st := Step.same m hs
  have t1 := t.setOwn (eown_some h1) g r hs g' (st.relAll r'.1)
  refine (DenTg.tup (W := W) (G := G) (x1 := x1) (p := tp) N) A env { s with heap := _, toks := s.toks } M _ oa v d ρ' _ E ⟨cx.ok.hd, by have := cx.ok.dp; omega, by have := cx.ok.un; omega⟩ cx.es t1.env (st.rel r'.2) e3 fun h3 tk3 c1 c2 c3 eo3 => ?_
  have tgF : ∀ b, TgA Γ env k b → hb.get? b = none := fun b x => by
    rcases x with rfl | ⟨i, x, _, hx, hc⟩
    · exact cx.lF
    · exact cx.cF i x b hx hc
  exact q h3 tk3 M oa (st.trans ⟨c2, fun _ x => .inl x⟩) ⟨eo3, fun b o e => c1 b o (fun x => by rw [tgF b x] at e; cases e) (t1.kb b o e), t1.sub, t1.new, fun j ds e => t1.oF j ds (c3 j ds e)⟩
end
end Gos
end

section
open PySem PySem.W PyProof.Rows
namespace Gos
open PySem

section
variable {W : Gl} {n : Nat} {Γ : Lay} {G : List Str}

/- a comprehension with two clauses -/
theorem c2_start {A : Around} {R : Result → Shared → Prop} {s : Shared} {elt t1 i1 t2 i2 : Expr} {scope : Scope} {pos : Pos} {it acc : Value} {env : Env}
    (h0 : codeAny (model W.prog W.w) A (.compLoop (.ListComp elt [⟨t1, i1, [], 0⟩, ⟨t2, i2, [], 0⟩] scope pos) 1 it acc env) R s)
    (h : wpAny (model W.prog W.w) A (pyIter it) (fun it' s' => codeAny (model W.prog W.w) A (.compLoop (.ListComp elt [⟨t1, i1, [], 0⟩, ⟨t2, i2, [], 0⟩] scope pos) 1 it' acc env) R s')
      (notedBy (model W.prog W.w) A env fun x s' => R (.error x) s') s) :
    codeAny (model W.prog W.w) A (.compStart (.ListComp elt [⟨t1, i1, [], 0⟩, ⟨t2, i2, [], 0⟩] scope pos) 1 it acc env) R s := by
  refine codeAny_of_tree ?_
  show wpAny _ _ ((compStart (.ListComp elt [⟨t1, i1, [], 0⟩, ⟨t2, i2, [], 0⟩] scope pos) 1 it acc env).onRaise (fun x => do noteFrame x env; standAt theWindowsPlace)) _ _ s
  refine wpAny_notedAt ?_
  unfold compStart
  show wpAny _ _ (ask >>= _) _ _ s
  refine wpAny_bind (wpAny_askSetting (wpAny_ite ?_))
  split
  · first
      | exact wpAny_bind (wpAny_pure (wpAny_pure (And.intro rfl h0)))
      | exact wpAny_pure (And.intro rfl h0)
  · first
      | exact wpAny_bind (wpAny_rule (wpAny_bind (wpAny_standAt (wpAny_bind (wpAny_mono h (fun it' s' h' => wpAny_pure (And.intro rfl h')) fun _ _ x => x)))))
      | (refine wpAny_bind (wpAny_rule ?_); show wpAny _ _ (standAt i2.pos >>= _) _ _ s; exact wpAny_bind (wpAny_standAt (wpAny_bind (wpAny_mono h (fun it' s' h' => wpAny_pure (And.intro rfl h')) fun _ _ x => x))))

theorem c2_turn1 (elt t1 i1 t2 i2 : Expr) (scope : Scope) (pos : Pos) (it acc : Value) (env : Env) :
    compTurn (.ListComp elt [⟨t1, i1, [], 0⟩, ⟨t2, i2, [], 0⟩] scope pos) 1 it acc env = (standAt i2.pos >>= fun _ => pyNext it >>= fun r => match r with
      | none => pure (.done .next)
      | some v => letOwnedTupleGo t2 it v >>= fun _ => assign t2 env v >>= fun _ =>
        (eval elt env >>= fun x => call (.builtin "list.append") [acc, x] >>= fun _ => pure ()) >>= fun _ =>
          again (.compLoop (.ListComp elt [⟨t1, i1, [], 0⟩, ⟨t2, i2, [], 0⟩] scope pos) 1 it acc env)) := by rfl
theorem c2_turn0 (elt t1 i1 t2 i2 : Expr) (scope : Scope) (pos : Pos) (it acc : Value) (env : Env) :
    compTurn (.ListComp elt [⟨t1, i1, [], 0⟩, ⟨t2, i2, [], 0⟩] scope pos) 0 it acc env = (standAt i1.pos >>= fun _ => pyNext it >>= fun r => match r with
      | none => pure (.done .next)
      | some v => letOwnedTupleGo t1 it v >>= fun _ => assign t1 env v >>= fun _ =>
        eval i2 env >>= fun x => standAt i2.pos >>= fun _ => foldedSetIterable i2 env x >>= fun x => holding [x] (pyIter x) >>= fun it2 =>
          runOwn (.compStart (.ListComp elt [⟨t1, i1, [], 0⟩, ⟨t2, i2, [], 0⟩] scope pos) 1 it2 acc env) env >>= fun _ =>
          again (.compLoop (.ListComp elt [⟨t1, i1, [], 0⟩, ⟨t2, i2, [], 0⟩] scope pos) 0 it acc env)) := by rfl

theorem c2_loop1 {A : Around} {R : Result → Shared → Prop} {s : Shared} {elt t1 i1 t2 i2 : Expr} {scope : Scope} {pos : Pos} {it acc : Value} {env : Env} (I : Nat → Shared → Prop)
    (turn : ∀ n s E', I n s → Nxt W A t2 it s (fun r s₁ => match r with
      | none => R (.ok .next) s₁
      | some v => wpAny (model W.prog W.w) A (assign t2 env v) (fun _ s₂ => wpAny (model W.prog W.w) A (eval elt env) (fun x s₄ =>
              wpAny (model W.prog W.w) A (call (.builtin "list.append") [acc, x]) (fun _ s₅ => ∃ m, m < n ∧ I m s₅) E' s₄) E' s₂) E' s₁) E')
    (n : Nat) (h : I n s) : codeAny (model W.prog W.w) A (.compLoop (.ListComp elt [⟨t1, i1, [], 0⟩, ⟨t2, i2, [], 0⟩] scope pos) 1 it acc env) R s := by
  refine codeAny_loop rfl I (fun n s hI => ?_) n h
  show wpAny _ A ((compTurn (.ListComp elt [⟨t1, i1, [], 0⟩, ⟨t2, i2, [], 0⟩] scope pos) 1 it acc env).onRaise (fun x => do noteFrame x env; theTreesLotGoes x)) _ _ s
  refine wpAny_noted ?_
  rw [c2_turn1]
  refine wpAny_bind (wpAny_standAt (wpAny_bind (wpAny_mono (turn n s _ hI) (fun r s₁ h₁ => ?_) fun _ _ h' => h')))
  cases r with
  | none => exact wpAny_pure h₁
  | some v =>
    refine wpAny_bind (wpAny_mono h₁ (fun _ s₂ h₂ => ?_) fun _ _ h' => h')
    refine wpAny_bind (wpAny_mono h₂ (fun _ s₃ h₃ => ?_) fun _ _ h' => h')
    exact wpAny_bind (wpAny_bind (wpAny_mono h₃ (fun x s₅ h₅ => wpAny_bind (wpAny_mono h₅ (fun _ s₆ h₆ => wpAny_pure (wpAny_pure ⟨rfl, h₆⟩)) fun _ _ h' => h')) fun _ _ h' => h'))
theorem c2_loop0 {A : Around} {R : Result → Shared → Prop} {s : Shared} {elt t1 i1 t2 i2 : Expr} {scope : Scope} {pos : Pos} {it acc : Value} {env : Env} (hs : notSet i2 = true) (I : Nat → Shared → Prop)
    (turn : ∀ n s E', I n s → Nxt W A t1 it s (fun r s₁ => match r with
      | none => R (.ok .next) s₁
      | some v => wpAny (model W.prog W.w) A (assign t1 env v) (fun _ s₂ => wpAny (model W.prog W.w) A (eval i2 env) (fun x s₃ => wpAny (model W.prog W.w) A (pyIter x) (fun it2 s₄ =>
          codeAny (model W.prog W.w) A (.compStart (.ListComp elt [⟨t1, i1, [], 0⟩, ⟨t2, i2, [], 0⟩] scope pos) 1 it2 acc env) (fun r s₅ => match r with | .ok _ => ∃ m, m < n ∧ I m s₅ | .error e => cameBackBy (model W.prog W.w) A env E' e s₅) s₄) E' s₃) E' s₂) E' s₁) E')
    (n : Nat) (h : I n s) : codeAny (model W.prog W.w) A (.compLoop (.ListComp elt [⟨t1, i1, [], 0⟩, ⟨t2, i2, [], 0⟩] scope pos) 0 it acc env) R s := by
  refine codeAny_loop rfl I (fun n s hI => ?_) n h
  show wpAny _ A ((compTurn (.ListComp elt [⟨t1, i1, [], 0⟩, ⟨t2, i2, [], 0⟩] scope pos) 0 it acc env).onRaise (fun x => do noteFrame x env; theTreesLotGoes x)) _ _ s
  refine wpAny_noted ?_
  rw [c2_turn0]
  refine wpAny_bind (wpAny_standAt (wpAny_bind (wpAny_mono (turn n s _ hI) (fun r s₁ h₁ => ?_) fun _ _ h' => h')))
  cases r with
  | none => exact wpAny_pure h₁
  | some v =>
    refine wpAny_bind (wpAny_mono h₁ (fun _ s₂ h₂ => ?_) fun _ _ h' => h')
    refine wpAny_bind (wpAny_mono h₂ (fun _ s₃ h₃ => ?_) fun _ _ h' => h')
    refine wpAny_bind (wpAny_mono h₃ (fun x s₄ h₄ => wpAny_bind (wpAny_standAt (wpAny_bind (wpAny_of_eq (folded_notSet hs x) (wpAny_bind (wpAny_holding (wpAny_mono h₄ (fun it2 s₅ h₅ => ?_) fun _ _ h' => h'))))))) fun _ _ h' => h')
    refine wpAny_bind (wpAny_runOwn (codeAny_mono h₅ fun r s₆ hr => ?_))
    cases r with
    | ok f => exact wpAny_pure ⟨rfl, hr⟩
    | error e => exact hr

/-- a slot is given up -/
theorem EnvOk.forget {env : Env} {ρ : List S} {h : Heap} {M : Addr → Prop} {oa : Nat → Addr} {i : Nat} {d : D} (eo : EnvOk Γ env (sset ρ i (.fr d)) h M oa) (e : sget ρ i = .unb) : EnvOk Γ env ρ h M oa := by
  have sv : ∀ {j : Nat} {ov : Option Value}, SV h M (oa j) (sget (sset ρ i (.fr d)) j) ov → SV h M (oa j) (sget ρ j) ov := fun {j ov} x => by
    by_cases ij : i = j
    · subst ij; rw [e]; trivial
    · rwa [sget_sset_ne ij] at x
  have ow : ∀ {j p}, sget ρ j = .own p → sget (sset ρ i (.fr d)) j = .own p := fun {j p} q => by
    by_cases ij : i = j
    · subst ij; rw [e] at q; cases q
    · rwa [sget_sset_ne ij]
  refine ⟨eo.ns, eo.ML, eo.dom, fun j x hj => sv (eo.loc j x hj), fun j x hj => ?_, fun a b p q h1 h2 h3 => eo.apart a b p q (ow h1) (ow h2) h3, fun j p h1 => eo.own j p (ow h1), fun j p h1 => eo.oL j p (ow h1)⟩
  obtain ⟨c, ov, h1, h2, h3, h4⟩ := eo.cel j x hj
  exact ⟨c, ov, h1, h2, h3, sv h4⟩

noncomputable def comp2in (j : Nat) (g : List S → Option D) : List D → List S → Option (List D)
  | [], _ => some []
  | d :: ds, ρ => bind2 consD (g (sset ρ j (.fr d))) (comp2in j g ds ρ)
noncomputable def appD (a b : List D) : Option (List D) := some (a ++ b)
noncomputable def comp2 (i j : Nat) (fs : List S → Option (List D)) (g : List S → Option D) : List D → List S → Option (List D)
  | [], _ => some []
  | d :: ds, ρ => bind2 appD (bind1 (fun ds2 => comp2in j g ds2 (sset ρ i (.fr d))) (fs (sset ρ i (.fr d)))) (comp2 i j fs g ds ρ)

theorem c2_inner {A : Around} {env : Env} {s : Shared} {M : Addr → Prop} {ρ : List S} {oa : Nat → Addr} {tl j : Nat} {acc : Addr} {x : Str} {kd : VK} {p2 pos : Pos} {t1 i1 i2 elt : Expr} {sc : Scope} {fs : List S → Option (List D)} {g : List S → Option D} {ds2 done res : List D} {vs : List Value} {c : Nat}
    {R : Result → Shared → Prop} {E : Value → Shared → Prop} (P : Pre W n Γ G A env s M ρ oa) (hi : DenI W n Γ G (.Name x p2) i2 fs) (hg : DenE W n Γ G elt g) (hx : Γ[j]? = some (x, kd)) (hk : kd ≠ .no) (hj : j < tl) (hun : sget ρ j = .unb)
    (e1 : fs ρ = some ds2) (e2 : comp2in j g ds2 ρ = some res) (hsm : done.length + res.length ≤ sizeLine) (mD : M acc) (nT : ¬ TgA Γ env tl acc) (nL : acc ≠ env.locals) (nC : ∀ (i : Nat) x c', Γ[i]? = some (x, VK.cel) → env.cells.lookup x = some c' → acc ≠ c') (nO : ∀ i p, sget ρ i = .own p → acc ≠ oa i)
    (gD : s.heap.get? acc = some (lstO vs c)) (hv : RelAll s.heap M vs done)
    (q : ∀ h' tk vs' c', Step M s.heap M h' → (∀ b o, b ≠ acc → ¬ TgA Γ env tl b → s.heap.get? b = some o → h'.get? b = some o) → EnvOk Γ env ρ h' M oa → h'.get? acc = some (lstO vs' c') → RelAll h' M vs' (done ++ res) → R (.ok .next) { s with heap := h', toks := tk }) :
    wpAny (model W.prog W.w) A (eval i2 env) (fun x₃ s₃ => wpAny (model W.prog W.w) A (pyIter x₃) (fun it2 s₄ =>
      codeAny (model W.prog W.w) A (.compStart (.ListComp elt [⟨t1, i1, [], 0⟩, ⟨.Name x p2, i2, [], 0⟩] sc pos) 1 it2 (.ref acc) env) R s₄) E s₃) E s := by
  refine hi A env s M ρ oa ds2 _ E P e1 fun it own hA tkA kA ho1 ho2 hit hself => ?_
  have own1 : ∀ b, own b → ¬ M b := fun b hb m => P.env.dom b m (ho1 b hb)
  have nownD : ¬ own acc := fun h => by rw [ho1 _ h] at gD; cases gD
  have ownS : ∀ b, own b → s.heap.get? b = none := ho1
  have loop : codeAny (model W.prog W.w) A (.compLoop (.ListComp elt [⟨t1, i1, [], 0⟩, ⟨.Name x p2, i2, [], 0⟩] sc pos) 1 it (.ref acc) env) R { s with heap := hA, toks := tkA } := by
    refine c2_loop1 (fun k s' => ∃ ds h' tk vs c dn rest, s' = { s with heap := h', toks := tk } ∧ k = List.length ds ∧ ItOk W A (.Name x p2) own it ds h' M ∧ EnvOk Γ env ρ h' M oa ∧ h'.get? acc = some (lstO vs c) ∧ RelAll h' M vs dn ∧ comp2in j g ds ρ = some rest ∧ dn ++ rest = done ++ res ∧
      Step M s.heap M h' ∧ (∀ b o, b ≠ acc → ¬ TgA Γ env tl b → s.heap.get? b = some o → h'.get? b = some o) ∧ (∀ b, own b → h'.get? b ≠ none)) ?_ ds2.length
      ⟨ds2, hA, tkA, vs, c, done, res, rfl, rfl, hit, P.env.keep kA, kA _ _ gD, hv.keep kA, e2, rfl, .of_keep kA, fun b o _ _ e => kA b o e, ho2⟩
    rintro k s' E' ⟨ds, h', tk, vs', c', dn, rest, rfl, rfl, hit', eo', gD', hv', hc, hr, st', kp', hown⟩
    have stI : ∀ {h2}, KeepI own h' h2 → Step M s.heap M h2 := fun {h2} k2 => ⟨fun b o nb e => k2.keep b o (fun x => by rw [ownS b x] at e; cases e) (st'.keep b o nb e), st'.new⟩
    cases ds with
    | nil =>
      cases hc
      rw [List.append_nil] at hr
      subst hr
      refine hit' h' M (.refl _ _) eo'.dom { s with heap := h', toks := tk } _ E' rfl fun h5 tk5 k5 => ?_
      exact q h5 tk5 vs' c' (stI k5) (fun b o n1 n2 e => k5.keep b o (fun x => by rw [ownS b x] at e; cases e) (kp' b o n1 n2 e)) (eo'.keepI k5 own1) (k5.keep _ _ nownD gD') (k5.relAll hv')
    | cons d ds =>
      unfold comp2in at hc
      obtain ⟨y, rest', hg1, hc', e3⟩ := bind2_some hc
      cases e3
      refine hit' h' M (.refl _ _) eo'.dom { s with heap := h', toks := tk } _ E' rfl fun v h5 tk5 k5 o5 rv it5 => ?_
      have eo5 := eo'.keepI k5 own1
      refine DenTg.name (W := W) (G := G) (k := tl) j hx hk hj A _ _ M ρ _ v d _ _ E' ⟨P.ok.hd, by have := P.ok.dp; omega, by have := P.ok.un; omega⟩ P.es eo5 rv rfl fun h6 tk6 c1 c2 c3 eo6 => ?_
      have st6 : Step M h5 M h6 := ⟨c2, fun _ x => .inl x⟩
      have gD6 : h6.get? acc = some (lstO vs' c') := c1 _ _ nT (k5.keep _ _ nownD gD')
      have st06 := (stI k5).trans st6
      have base6 : Keep W.h₀ h6 := fun b o e => st06.keep b o (fun m => by rw [P.off b m] at e; cases e) (P.base b o e)
      have own6 : ∀ b, own b → h6.get? b ≠ none := fun b hb => by
        cases q' : h5.get? b with
        | none => exact absurd q' (o5 b hb)
        | some o => rw [c2 b o (own1 b hb) q']; simp
      have P6 : Pre W n Γ G A env { s with heap := h6, toks := tk6 } M (sset ρ j (.fr d)) oa := ⟨P.ok, P.es, base6, P.off, eo6⟩
      refine hg A _ _ M _ _ y _ E' P6 hg1 fun xv h8 tk8 k8 rx => ?_
      have hv6 : RelAll h6 M vs' dn := st6.relAll (k5.relAll hv')
      have hlen : vs'.length ≤ sizeLine := by
        rw [hv'.length]
        have := congrArg List.length hr
        simp only [List.length_append, List.length_cons] at this
        omega
      refine wpAny_list_append_plain (items := vs'.toArray) ⟨c', k8 _ _ gD6⟩ (fun h9 hl9 hs9 => ?_) (by simpa using hlen)
      obtain ⟨c9, g9⟩ := hl9
      have g9' : h9.get? acc = some (lstO (vs' ++ [xv]) c9) := by simpa using g9
      have st89 : Step M h8 M h9 := Step.same mD hs9
      have eo8 := eo6.keep k8
      have eo9 : EnvOk Γ env (sset ρ j (.fr d)) h9 M oa := eo8.chg hs9 (dom_some g9) mD nL nC fun i p hi => by
        rcases sset_cases hi (by simp) with ⟨_, e⟩ | ⟨_, e⟩
        · cases e
        · exact nO i p e
      have st69 := (Step.of_keep (M := M) k8).trans st89
      refine ⟨ds.length, Nat.lt_succ_self _, ds, h9, _, vs' ++ [xv], c9, dn ++ [y], rest', rfl, rfl, it5.step (st6.trans st69), eo9.forget hun, g9', (st69.relAll hv6).append (.cons (st89.rel rx) .nil), hc', ?_, st06.trans st69, fun b o n1 n2 e => (hs9.2 b n1).trans (k8 _ _ (c1 b o n2 (k5.keep b o (fun x => by rw [ownS b x] at e; cases e) (kp' b o n1 n2 e)))), fun b hb => ?_⟩
      · rw [List.append_assoc]; exact hr
      · have : b ≠ acc := fun q => nownD (q ▸ hb)
        cases q' : h6.get? b with
        | none => exact absurd q' (own6 b hb)
        | some o => rw [(hs9.2 b this).trans (k8 _ _ q')]; simp
  refine c2_start loop ?_
  exact hself hA M (.refl _ _) { s with heap := hA, toks := tkA } _ _ rfl loop

theorem comp_run2 {A : Around} {env : Env} {s : Shared} {M : Addr → Prop} {ρ : List S} {oa : Nat → Addr} {sc : Scope} {tl i j : Nat} {Γ' : Lay} {G' : List Str} {x y : Str} {kx ky : VK} {px py pos : Pos} {i1 i2 elt : Expr} {g : List S → Option D}
    {fs fs2 : List S → Option (List D)} {ds res : List D} {RR : Value → Addr → Result → Shared → Prop} {E : Value → Shared → Prop}
    (P : Pre W n Γ G A env s M ρ oa) (cs : CompS Γ G sc tl Γ' G') (hi : DenI W n Γ G (.Name x px) i1 fs) (hi2 : DenI W n Γ' G' (.Name y py) i2 fs2) (hg : DenE W n Γ' G' elt g)
    (hx : Γ'[i]? = some (x, kx)) (hkx : kx ≠ .no) (hil : i < tl) (hy : Γ'[j]? = some (y, ky)) (hky : ky ≠ .no) (hjl : j < tl) (hij : i ≠ j) (hs2 : notSet i2 = true)
    (e1 : fs ρ = some ds) (e2 : comp2 i j fs2 g ds (unbs tl ρ) = some res) (hsm : small res = true)
    (hRR : ∀ a C vs k m h' tk, Keep s.heap h' → s.heap.get? a = none → s.heap.get? C = none → a ≠ C → h'.Ns C m → h'.get? a = some (lstO vs k) → RelAll h' (fun b => b = a ∨ b = C ∨ M b) vs res → RR (.ref a) C (.ok .next) { s with heap := h', toks := tk }) :
    wpAny (model W.prog W.w) A (eval i1 env) (fun xx s₁ => wpAny (model W.prog W.w) A (pyIter xx) (fun it s₂ => wpAny (model W.prog W.w) A (newList []) (fun acc s₃ =>
      wpAny (model W.prog W.w) A (newFunctionEnv sc env.globals (clOf env.cells sc.names []) [] env.qual none .none (some env)) (fun cenv s₄ =>
        codeAny (model W.prog W.w) A (.compStart (.ListComp elt [⟨.Name x px, i1, [], 0⟩, ⟨.Name y py, i2, [], 0⟩] sc pos) 0 it acc { cenv with scope := relabel sc env }) (RR acc cenv.locals) s₄) E s₃) E s₂) E s₁) E s := by
  refine hi A env s M ρ oa ds _ E P e1 fun it own hA tkA kA ho1 ho2 hit hself => ?_
  refine wpAny_newObj_type ?_
  have hD := get_size hA
  have kB : Keep hA (hA.push (lstO [] 0)) := Keep.push _ _
  have gD : (hA.push (lstO [] 0)).get? hA.objs.size = some (lstO [] 0) := Heap.get?_push_size _ rfl
  have back : ∀ {b : Addr}, hA.get? b = none → s.heap.get? b = none := fun {b} e => by
    cases q : s.heap.get? b with
    | none => rfl
    | some o => rw [kA _ _ q] at e; cases e
  have domM : ∀ b, M b → hA.get? b ≠ none := (P.env.keep kA).dom
  refine compEnv_ok (s := s) P cs (kA.trans kB) hA.objs.size (dom_some gD) (back hD) (fun b hb e => domM b hb (e ▸ hD)) fun cenv h3 M' k3 sub new mD tgn es eo => ?_
  have hCl : ({ cenv with scope := relabel sc env } : Env).locals = cenv.locals := rfl
  have hCn : (hA.push (lstO [] 0)).get? cenv.locals = none := tgn _ (.inl rfl)
  have hDC : hA.objs.size ≠ cenv.locals := fun e => by rw [← e, gD] at hCn; cases hCn
  have hCA : hA.get? cenv.locals = none := by
    cases q : hA.get? cenv.locals with
    | none => rfl
    | some o => rw [kB _ _ q] at hCn; cases hCn
  have own1 : ∀ b, own b → ¬ M' b := fun b hb hm => by
    rcases new b hm with h | h | h
    · have := P.env.dom b h; exact this (ho1 b hb)
    · subst h; exact ho2 _ hb hD
    · have := ho2 b hb
      cases q : hA.get? b with
      | none => exact this q
      | some o => rw [kB _ _ q] at h; cases h
  have nownD : ¬ own hA.objs.size := fun h => ho2 _ h hD
  have st0 : Step M hA M' h3 := ⟨fun b o _ e => k3 b o (kB b o e), fun a ha => by
    rcases new a ha with h | h | h
    · exact .inl h
    · subst h; exact .inr hD
    · refine .inr ?_
      cases q : hA.get? a with
      | none => rfl
      | some o => rw [kB _ _ q] at h; cases h⟩
  have base3 : Keep s.heap h3 := (kA.trans kB).trans k3
  have off' : ∀ a, M' a → W.h₀.get? a = none := fun a ha => by
    rcases st0.new a ha with h | h
    · exact P.off a h
    · have := back h
      cases q : W.h₀.get? a with
      | none => rfl
      | some o => rw [P.base _ _ q] at this; cases this
  have ownS : ∀ j xs, sget (unbs tl ρ) j = .own xs → hA.objs.size ≠ oa (j - tl) := fun j xs hj e => by
    by_cases hlt : j < tl
    · rw [sget_unbs_lt hlt] at hj; cases hj
    · rw [sget_unbs_ge (Nat.not_lt.mp hlt)] at hj
      exact P.env.dom _ (P.env.own _ xs hj) (e ▸ back hD)
  have unbI : sget (unbs tl ρ) i = .unb := sget_unbs_lt hil
  have unbJ : sget (unbs tl ρ) j = .unb := sget_unbs_lt hjl
  have nT : ¬ TgA Γ' { cenv with scope := relabel sc env } tl hA.objs.size := fun h => by
    have := tgn _ h
    rw [gD] at this; cases this
  have loop : ∀ s4 : Shared, s4 = { s with heap := h3, toks := tkA } → codeAny (model W.prog W.w) A (.compLoop (.ListComp elt [⟨.Name x px, i1, [], 0⟩, ⟨.Name y py, i2, [], 0⟩] sc pos) 0 it (.ref hA.objs.size) { cenv with scope := relabel sc env }) (RR (.ref hA.objs.size) cenv.locals) s4 := by
    rintro s4 rfl
    refine c2_loop0 hs2
      (fun k s' => ∃ ds h' tk vs c done rest, s' = { s with heap := h', toks := tk } ∧ k = List.length ds ∧ ItOk W A (.Name x px) own it ds h' M' ∧ EnvOk Γ' { cenv with scope := relabel sc env } (unbs tl ρ) h' M' (fun i => oa (i - tl)) ∧ h'.get? hA.objs.size = some (lstO vs c) ∧
        RelAll h' M' vs done ∧ comp2 i j fs2 g ds (unbs tl ρ) = some rest ∧ done ++ rest = res ∧ Keep s.heap h' ∧ (∀ b, own b → h'.get? b ≠ none)) ?_ ds.length
      ⟨ds, h3, tkA, [], 0, [], res, rfl, rfl, hit.step st0, eo, k3 _ _ gD, .nil, e2, rfl, base3, fun b hb => ?_⟩
    · rintro k s' E' ⟨ds, h', tk, vs, c, done, rest, rfl, rfl, hit', eo', gD', hv, hc, hr, kk, hown⟩
      cases ds with
      | nil =>
        cases hc
        rw [List.append_nil] at hr
        subst hr
        refine hit' h' M' (.refl _ _) eo'.dom { s with heap := h', toks := tk } _ E' rfl fun h5 tk5 k5 => ?_
        have gD5 := k5.keep _ _ nownD gD'
        have eo5 := eo'.keepI k5 own1
        refine hRR hA.objs.size cenv.locals vs c _ h5 tk5 (fun b o e => k5.keep b o (fun x => by rw [ho1 b x] at e; cases e) (kk b o e)) (back hD) (back hCA) hDC eo5.ns gD5 ((k5.relAll hv).less fun b hb => ?_)
        rcases hb with rfl | rfl | hb
        · exact mD
        · exact eo.ML
        · exact sub b hb
      | cons d ds =>
        unfold comp2 at hc
        obtain ⟨res1, rest', hin, hc', e3⟩ := bind2_some hc
        cases e3
        obtain ⟨ds2, hf2, hin⟩ := bind1_some hin
        refine hit' h' M' (.refl _ _) eo'.dom { s with heap := h', toks := tk } _ E' rfl fun v h5 tk5 k5 o5 rv it5 => ?_
        have eo5 := eo'.keepI k5 own1
        refine DenTg.name (W := W) (G := G') (k := tl) i hx hkx hil A _ _ M' _ _ v d _ _ E' ⟨P.ok.hd, by have := P.ok.dp; omega, by have := P.ok.un; omega⟩ es eo5 rv rfl fun h6 tk6 c1 c2 c3 eo6 => ?_
        have old6 : ∀ b o, (hA.push (lstO [] 0)).get? b = some o → ∀ o', h5.get? b = some o' → h6.get? b = some o' := fun b o e o' e' => c1 b o' (fun x => by rw [tgn b x] at e; cases e) e'
        have st6 : Step M' h5 M' h6 := ⟨c2, fun _ x => .inl x⟩
        have gD6 : h6.get? hA.objs.size = some (lstO vs c) := old6 _ _ gD _ (k5.keep _ _ nownD gD')
        have kk6 : Keep s.heap h6 := fun b o e => old6 b o (kB _ _ (kA _ _ e)) o (k5.keep b o (fun x => by rw [ho1 b x] at e; cases e) (kk b o e))
        have own6 : ∀ b, own b → h6.get? b ≠ none := fun b hb => by
          cases q' : h5.get? b with
          | none => exact absurd q' (o5 b hb)
          | some o' => rw [c2 b o' (own1 b hb) q']; simp
        have hv6 : RelAll h6 M' vs done := st6.relAll (k5.relAll hv)
        have P6 : Pre W n Γ' G' A { cenv with scope := relabel sc env } { s with heap := h6, toks := tk6 } M' (sset (unbs tl ρ) i (.fr d)) (fun i => oa (i - tl)) := ⟨P.ok, es, P.base.trans kk6, off', eo6⟩
        have hlen : done.length + res1.length ≤ sizeLine := by
          refine Nat.le_trans ?_ (small_le hsm)
          rw [← hr, List.length_append, List.length_append]; omega
        refine c2_inner P6 hi2 hg hy hky hjl (by rw [sget_sset_ne hij]; exact unbJ) hf2 hin hlen mD nT (fun e => hDC e) (fun i x' c' hx' hcc => ?_) (fun i' p hp => ?_) gD6 hv6 fun h9 tk9 vs9 c9 st9 kp9 eo9 g9 r9 => ?_
        · obtain ⟨c'', ov, q1, q2, _⟩ := eo6.cel i x' hx'
          rw [hcc] at q1; cases q1
          exact Ne.symm (cell_ne_list q2 gD6)
        · rcases sset_cases hp (by simp) with ⟨_, e⟩ | ⟨_, e⟩
          · cases e
          · exact ownS i' p e
        · refine ⟨ds.length, Nat.lt_succ_self _, ds, h9, tk9, vs9, c9, done ++ res1, rest', rfl, rfl, it5.step (st6.trans st9), eo9.forget unbI, g9, r9, hc', by rw [List.append_assoc]; exact hr, fun b o e => ?_, fun b hb => ?_⟩
          · refine kp9 b o (fun x => ?_) (fun x => ?_) (kk6 b o e)
            · rw [x, back hD] at e; cases e
            · have := tgn b x
              rw [kB _ _ (kA _ _ e)] at this; cases this
          · cases q' : h6.get? b with
            | none => exact absurd q' (own6 b hb)
            | some o => rw [st9.keep b o (own1 b hb) q']; simp
    · have := ho2 b hb
      cases q : hA.get? b with
      | none => exact absurd q this
      | some o => rw [k3 _ _ (kB _ _ q)]; simp
  refine codeAny_compStart_list (loop _ rfl) ?_
  exact hself h3 M' st0 _ _ _ rfl (loop _ rfl)

theorem DenO.comp2E (i0 i j : Nat) {x0 : Str} {p0 pos cp : Pos} {x y : Str} {kx ky : VK} {px py : Pos} {i1 i2 elt : Expr} {sc : Scope} {tl : Nat} {Γ' : Lay} {G' : List Str} {g : List S → Option D} {fs fs2 : List S → Option (List D)}
    (cs : CompS Γ G sc tl Γ' G') (hi : DenI W n Γ G (.Name x px) i1 fs) (hi2 : DenI W n Γ' G' (.Name y py) i2 fs2) (hg : DenE W n Γ' G' elt g) (h0 : Γ[i0]? = some (x0, VK.loc) := by rfl)
    (hx : Γ'[i]? = some (x, kx) := by rfl) (hkx : kx ≠ .no := by decide) (hil : i < tl := by decide) (hy : Γ'[j]? = some (y, ky) := by rfl) (hky : ky ≠ .no := by decide) (hjl : j < tl := by decide) (hij : i ≠ j := by decide)
    (hl : (p0.line == cp.line) = true := by rfl) (hn : (sc.names.any fun (n, k) => n == x0 && (k == .local || k == .cell)) = false := by decide +kernel) (hns : notSet i1 = true := by rfl) (hs2 : notSet i2 = true := by rfl) :
    DenO W n Γ G (.Assign [.Name x0 p0] (.ListComp elt [⟨.Name x px, i1, [], 0⟩, ⟨.Name y py, i2, [], 0⟩] sc cp) pos) (fun ρ => setE i0 ρ (elst (bind1 (fun ds => bind1 elist (comp2 i j fs2 g ds (unbs tl ρ))) (fs ρ)))) := fun A env s hb M₀ M ρ oa fl Q E cx st e q => by
  dsimp only at e
  cases hf : bind1 (fun ds => bind1 elist (comp2 i j fs2 g ds (unbs tl ρ))) (fs ρ) with
  | none => rw [hf] at e; cases e
  | some res =>
    rw [hf] at e; cases e
    obtain ⟨ds, e1, e2⟩ := bind1_some hf
    obtain ⟨res', e2, e3⟩ := bind1_some e2
    unfold elist at e3
    split at e3
    · rename_i hsm
      cases e3
      exact exch_core false cs h0 (by decide) (swaps_true cx.es h0 hl hn) hns cx st (fun RR h => comp_run2 (RR := RR) (cx.pre st) cs hi hi2 hg hx hkx hil hy hky hjl hij hs2 e1 e2 hsm h) q
    · cases e3
end
end Gos
end

section
open PySem PySem.W PyProof.Rows
namespace Gos
open PySem

structure FnS (Γ : Lay) (G : List Str) (sc : Scope) (ps : List Str) : Prop where
  kind : sc.kind = .function
  co : sc.isCoroutine = false
  gen : sc.isGenerator = false
  loc : ∀ (i : Nat) x, Γ[i]? = some (x, VK.loc) → sc.names.lookup x = some .local
  cel : ∀ (i : Nat) x, Γ[i]? = some (x, VK.cel) → sc.names.lookup x = some .cell
  gl : ∀ x ∈ G, sc.names.lookup x = some .globalImplicit
  nd : ∀ (i : Nat) x k, Γ[i]? = some (x, k) → (x == ("__debug__" : Str)) = false
  ndG : ∀ x ∈ G, (x == ("__debug__" : Str)) = false
  one : ∀ (i j : Nat) x k k', Γ[i]? = some (x, k) → Γ[j]? = some (x, k') → k ≠ VK.no → k' ≠ VK.no → i = j
  par : ∀ (i : Nat) p, ps[i]? = some p → ∃ k, Γ[i]? = some (p, k) ∧ k ≠ VK.no
  nodup : ps.Nodup

/- checked by a computation -/
noncomputable def layOk (look : Str → Option NameKind) : Lay → Bool
  | [] => true
  | (x, .loc) :: r => look x == some .local && !(x == ("__debug__" : Str)) && !(r.any fun y => y.1 == x && y.2 != .no) && layOk look r
  | (x, .cel) :: r => look x == some .cell && !(x == ("__debug__" : Str)) && !(r.any fun y => y.1 == x && y.2 != .no) && layOk look r
  | (x, .no) :: r => !(x == ("__debug__" : Str)) && layOk look r
theorem layOk_cons {look : Str → Option NameKind} {x : Str} {k : VK} {r : Lay} (h : layOk look ((x, k) :: r) = true) :
    (k = .loc → look x = some .local) ∧ (k = .cel → look x = some .cell) ∧ (x == ("__debug__" : Str)) = false ∧ (k ≠ .no → ∀ y ∈ r, y.1 = x → y.2 = .no) ∧ layOk look r = true := by
  cases k with
  | loc =>
    simp only [layOk, Bool.and_eq_true, Bool.not_eq_true'] at h
    obtain ⟨⟨⟨h1, h2⟩, h3⟩, h4⟩ := h
    refine ⟨fun _ => by simpa using h1, fun e => by (cases e), h2, fun _ y hy e => ?_, h4⟩
    have := List.any_eq_false.mp h3 y hy
    simp only [e, beq_self_eq_true, Bool.true_and, bne_iff_ne, ne_eq, Classical.not_not] at this
    exact this
  | cel =>
    simp only [layOk, Bool.and_eq_true, Bool.not_eq_true'] at h
    obtain ⟨⟨⟨h1, h2⟩, h3⟩, h4⟩ := h
    refine ⟨fun e => by (cases e), fun _ => by simpa using h1, h2, fun _ y hy e => ?_, h4⟩
    have := List.any_eq_false.mp h3 y hy
    simp only [e, beq_self_eq_true, Bool.true_and, bne_iff_ne, ne_eq, Classical.not_not] at this
    exact this
  | no =>
    simp only [layOk, Bool.and_eq_true, Bool.not_eq_true'] at h
    exact ⟨fun e => by (cases e), fun e => by (cases e), h.1, fun e => absurd rfl e, h.2⟩
theorem layOk_at {look : Str → Option NameKind} : ∀ {Γ : Lay}, layOk look Γ = true → ∀ (i : Nat) x k, Γ[i]? = some (x, k) → (k = .loc → look x = some .local) ∧ (k = .cel → look x = some .cell) ∧ (x == ("__debug__" : Str)) = false
  | [], _, i, x, k, e => by simp at e
  | (y, k') :: r, h, 0, x, k, e => by
    simp only [List.length_cons, Nat.zero_lt_succ, List.getElem?_cons_zero, Option.some.injEq] at e
    cases e
    have := layOk_cons h
    exact ⟨this.1, this.2.1, this.2.2.1⟩
  | (y, k') :: r, h, i + 1, x, k, e => layOk_at (layOk_cons h).2.2.2.2 i x k (by simpa using e)
theorem layOk_one {look : Str → Option NameKind} : ∀ {Γ : Lay}, layOk look Γ = true → ∀ (i j : Nat) x k k', Γ[i]? = some (x, k) → Γ[j]? = some (x, k') → k ≠ VK.no → k' ≠ VK.no → i = j
  | [], _, i, _, _, _, _, e, _, _, _ => by simp at e
  | (y, ky) :: r, h, 0, 0, _, _, _, _, _, _, _ => rfl
  | (y, ky) :: r, h, 0, j + 1, x, k, k', e, e', n, n' => by
    simp only [List.getElem?_cons_zero, Option.some.injEq] at e
    cases e
    exact absurd ((layOk_cons h).2.2.2.1 n _ (List.mem_of_getElem? (by simpa using e')) rfl) n'
  | (y, ky) :: r, h, i + 1, 0, x, k, k', e, e', n, n' => by
    simp only [List.getElem?_cons_zero, Option.some.injEq] at e'
    cases e'
    exact absurd ((layOk_cons h).2.2.2.1 n' _ (List.mem_of_getElem? (by simpa using e)) rfl) n
  | (y, ky) :: r, h, i + 1, j + 1, x, k, k', e, e', n, n' => by
    rw [layOk_one (layOk_cons h).2.2.2.2 i j x k k' (by simpa using e) (by simpa using e') n n']

noncomputable def parOk : List Str → Lay → Bool
  | [], _ => true
  | p :: ps, (x, k) :: r => p == x && k != .no && !(ps.contains p) && parOk ps r
  | _ :: _, [] => false
theorem parOk_at : ∀ {ps : List Str} {Γ : Lay}, parOk ps Γ = true → ps.Nodup ∧ ∀ (i : Nat) p, ps[i]? = some p → ∃ k, Γ[i]? = some (p, k) ∧ k ≠ VK.no
  | [], _, _ => ⟨.nil, fun i p e => by simp at e⟩
  | p :: ps, [], h => by cases h
  | p :: ps, (x, k) :: r, h => by
    simp only [parOk, Bool.and_eq_true, Bool.not_eq_true', bne_iff_ne, ne_eq, beq_iff_eq] at h
    obtain ⟨⟨⟨rfl, h2⟩, h3⟩, h4⟩ := h
    obtain ⟨i1, i2⟩ := parOk_at h4
    refine ⟨List.nodup_cons.mpr ⟨fun hm => ?_, i1⟩, fun i q e => ?_⟩
    · have : ps.contains p = true := by simpa using hm
      rw [h3] at this; cases this
    · cases i with
      | zero => simp at e; subst e; exact ⟨k, rfl, h2⟩
      | succ i => simpa using i2 i q (by simpa using e)
noncomputable def fnOk (Γ : Lay) (G : List Str) (sc : Scope) (ps : List Str) : Bool :=
  sc.kind == .function && !sc.isCoroutine && !sc.isGenerator && layOk (fun x => sc.names.lookup x) Γ && (G.all fun x => sc.names.lookup x == some .globalImplicit && !(x == ("__debug__" : Str))) && parOk ps Γ
theorem FnS.of {Γ : Lay} {G : List Str} {sc : Scope} {ps : List Str} (h : fnOk Γ G sc ps = true) : FnS Γ G sc ps := by
  simp only [fnOk, Bool.and_eq_true, Bool.not_eq_true'] at h
  obtain ⟨⟨⟨⟨⟨h1, h2⟩, h3⟩, h4⟩, h5⟩, h6⟩ := h
  have h5' : ∀ x ∈ G, sc.names.lookup x = some .globalImplicit ∧ (x == ("__debug__" : Str)) = false := fun x hx => by
    have := List.all_eq_true.mp h5 x hx
    simp only [Bool.and_eq_true, Bool.not_eq_true'] at this
    exact ⟨by simpa using this.1, this.2⟩
  obtain ⟨p1, p2⟩ := parOk_at h6
  exact ⟨by simpa using h1, h2, h3, fun i x e => (layOk_at h4 i x _ e).1 rfl, fun i x e => (layOk_at h4 i x _ e).2.1 rfl, fun x hx => (h5' x hx).1, fun i x k e => (layOk_at h4 i x k e).2.2, fun x hx => (h5' x hx).2, layOk_one h4, p2, p1⟩

/- the same for a comprehension -/
noncomputable def compLay (look : Str → Option NameKind) (Γ : Lay) : Nat → Lay → Bool
  | _, [] => true
  | n + 1, (x, .loc) :: r => look x == some .local && compLay look Γ n r
  | n + 1, (x, .cel) :: r => look x == some .cell && compLay look Γ n r
  | n + 1, (x, .no) :: r => compLay look Γ n r
  | 0, (x, .loc) :: r => false
  | 0, (x, .cel) :: r => look x == some .free && (match Γ with | (y, .cel) :: _ => y == x | _ => false) && compLay look Γ.tail 0 r
  | 0, (x, .no) :: r => compLay look Γ.tail 0 r
theorem compLay_at {look : Str → Option NameKind} : ∀ {n : Nat} {Γ' Γ : Lay}, compLay look Γ n Γ' = true → ∀ (i : Nat) x k, Γ'[i]? = some (x, k) →
    (k = .loc → look x = some .local ∧ i < n) ∧ (k = .cel → (i < n ∧ look x = some .cell) ∨ (n ≤ i ∧ look x = some .free ∧ Γ[i - n]? = some (x, VK.cel)))
  | n, [], Γ, _, i, x, k, e => by simp at e
  | n + 1, (y, ky) :: r, Γ, h, 0, x, k, e => by
    simp only [List.getElem?_cons_zero, Option.some.injEq, Prod.mk.injEq] at e
    obtain ⟨rfl, rfl⟩ := e
    cases ky with
    | loc => simp only [compLay, Bool.and_eq_true] at h; exact ⟨fun _ => ⟨by simpa using h.1, Nat.succ_pos _⟩, fun e => by cases e⟩
    | cel => simp only [compLay, Bool.and_eq_true] at h; exact ⟨fun e => by (cases e), fun _ => .inl ⟨Nat.succ_pos _, by simpa using h.1⟩⟩
    | no => exact ⟨fun e => by (cases e), fun e => by cases e⟩
  | n + 1, (y, ky) :: r, Γ, h, i + 1, x, k, e => by
    have h' : compLay look Γ n r = true := by
      cases ky <;> simp only [compLay, Bool.and_eq_true] at h
      · exact h.2
      · exact h.2
      · exact h
    have := compLay_at h' i x k (by simpa using e)
    refine ⟨fun q => ⟨(this.1 q).1, Nat.succ_lt_succ (this.1 q).2⟩, fun q => ?_⟩
    rcases this.2 q with a | a
    · exact .inl ⟨Nat.succ_lt_succ a.1, a.2⟩
    · exact .inr ⟨Nat.succ_le_succ a.1, a.2.1, by rw [Nat.add_sub_add_right]; exact a.2.2⟩
  | 0, (y, ky) :: r, Γ, h, 0, x, k, e => by
    simp only [List.getElem?_cons_zero, Option.some.injEq, Prod.mk.injEq] at e
    obtain ⟨rfl, rfl⟩ := e
    cases ky with
    | loc => cases h
    | cel =>
      simp only [compLay, Bool.and_eq_true] at h
      refine ⟨fun e => by (cases e), fun _ => .inr ⟨Nat.le_refl _, by simpa using h.1.1, ?_⟩⟩
      have h2 := h.1.2
      split at h2
      · rename_i z r'; simp at h2; subst h2; rfl
      · cases h2
    | no => exact ⟨fun e => by (cases e), fun e => by cases e⟩
  | 0, (y, ky) :: r, Γ, h, i + 1, x, k, e => by
    have h' : compLay look Γ.tail 0 r = true := by
      cases ky <;> simp only [compLay, Bool.and_eq_true] at h
      · cases h
      · exact h.2
      · exact h
    have := compLay_at h' i x k (by simpa using e)
    refine ⟨fun q => absurd (this.1 q).2 (Nat.not_lt_zero _), fun q => ?_⟩
    rcases this.2 q with a | a
    · exact absurd a.1 (Nat.not_lt_zero _)
    · refine .inr ⟨Nat.zero_le _, a.2.1, ?_⟩
      have := a.2.2
      rw [Nat.sub_zero] at this ⊢
      rwa [List.getElem?_tail] at this

noncomputable def uniqOk : Lay → Bool
  | [] => true
  | (x, k) :: r => !(x == ("__debug__" : Str)) && (k == .no || !(r.any fun y => y.1 == x && y.2 != .no)) && uniqOk r
theorem uniqOk_lay : ∀ {Γ : Lay}, uniqOk Γ = true → layOk (fun _ => none) (Γ.map fun x => (x.1, VK.no)) = true ∧ ∀ (i j : Nat) x k k', Γ[i]? = some (x, k) → Γ[j]? = some (x, k') → k ≠ VK.no → k' ≠ VK.no → i = j
  | [], _ => ⟨rfl, fun i _ _ _ _ e => by simp at e⟩
  | (y, ky) :: r, h => by
    simp only [uniqOk, Bool.and_eq_true, Bool.not_eq_true'] at h
    obtain ⟨⟨h1, h2⟩, h3⟩ := h
    obtain ⟨i1, i2⟩ := uniqOk_lay h3
    refine ⟨by simp only [List.map_cons, layOk, Bool.and_eq_true, Bool.not_eq_true']; exact ⟨h1, i1⟩, ?_⟩
    have key : ∀ (j : Nat) k', ky ≠ .no → r[j]? = some (y, k') → k' = .no := fun j k' n e => by
      rw [Bool.or_eq_true] at h2
      rcases h2 with h2 | h2
      · exact absurd (by simpa using h2) n
      · have := List.any_eq_false.mp (by simpa only [Bool.not_eq_true'] using h2) _ (List.mem_of_getElem? e)
        simpa using this
    intro i j x k k' e e' n n'
    cases i with
    | zero =>
      simp only [List.getElem?_cons_zero, Option.some.injEq] at e
      cases e
      cases j with
      | zero => rfl
      | succ j => exact absurd (key j k' n (by simpa using e')) n'
    | succ i =>
      cases j with
      | zero =>
        simp only [List.getElem?_cons_zero, Option.some.injEq] at e'
        cases e'
        exact absurd (key i k n' (by simpa using e)) n
      | succ j => rw [i2 i j x k k' (by simpa using e) (by simpa using e') n n']
noncomputable def compOk (Γ : Lay) (sc : Scope) (tl : Nat) (Γ' : Lay) (G' : List Str) : Bool :=
  sc.kind == .function && (sc.names.all fun x => sc.names.lookup x.1 == some x.2 && (x.2 != .free || Γ.any fun y => y.1 == x.1 && y.2 == .cel)) && compLay (fun x => sc.names.lookup x) Γ tl Γ' && uniqOk Γ' &&
    (G'.all fun x => sc.names.lookup x == some .globalImplicit && !(x == ("__debug__" : Str)))
theorem CompS.of {Γ : Lay} {G : List Str} {sc : Scope} {tl : Nat} {Γ' : Lay} {G' : List Str} (h : compOk Γ sc tl Γ' G' = true) : CompS Γ G sc tl Γ' G' := by
  simp only [compOk, Bool.and_eq_true] at h
  obtain ⟨⟨⟨⟨h1, h2⟩, h3⟩, h4⟩, h5⟩ := h
  have h5' : ∀ x ∈ G', sc.names.lookup x = some .globalImplicit ∧ (x == ("__debug__" : Str)) = false := fun x hx => by
    have := List.all_eq_true.mp h5 x hx
    simp only [Bool.and_eq_true, Bool.not_eq_true'] at this
    exact ⟨by simpa using this.1, this.2⟩
  have h2' : ∀ x ∈ sc.names, sc.names.lookup x.1 = some x.2 ∧ (x.2 = .free → ∃ i : Nat, Γ[i]? = some (x.1, VK.cel)) := fun x hx => by
    have := List.all_eq_true.mp h2 x hx
    simp only [Bool.and_eq_true, Bool.or_eq_true] at this
    refine ⟨by simpa using this.1, fun hf => ?_⟩
    rcases this.2 with q | q
    · rw [hf] at q; cases q
    · obtain ⟨y, hy, e⟩ := List.any_eq_true.mp q
      simp only [Bool.and_eq_true, beq_iff_eq] at e
      obtain ⟨i, hi⟩ := List.getElem?_of_mem hy
      exact ⟨i, by rw [hi, ← e.1, ← e.2]⟩
  obtain ⟨u1, u2⟩ := uniqOk_lay h4
  refine ⟨by simpa using h1, fun x hx => (h2' x hx).1, fun x hx => (h2' x hx).2, fun i x e => (compLay_at h3 i x _ e).1 rfl, fun i x e => (compLay_at h3 i x _ e).2 rfl, fun x hx => (h5' x hx).1, fun i x k e => ?_, fun x hx => (h5' x hx).2, u2⟩
  exact (layOk_at u1 i x .no (by simp [e])).2.2

section
variable {W : Gl} {n : Nat} {Γ : Lay} {G : List Str}

/- the parameters -/
theorem bindL_keep {kindOf : Str → Option NameKind} {x : Str} : ∀ {binds : List (Str × Value)} {m : Str → Option Value}, (∀ y ∈ binds, y.1 ≠ x) → bindL kindOf binds m x = m x
  | [], _, _ => rfl
  | (n, v) :: r, m, h => by
    unfold bindL
    rw [bindL_keep fun y hy => h y (.tail _ hy)]
    split
    · have : x ≠ n := fun e => h (n, v) (.head _) e.symm
      simp [this]
    · rfl
theorem bindC_keep {kindOf : Str → Option NameKind} {x : Str} : ∀ {binds : List (Str × Value)} {m : Str → Option Value}, (∀ y ∈ binds, y.1 ≠ x) → bindC kindOf binds m x = m x
  | [], _, _ => rfl
  | (n, v) :: r, m, h => by
    unfold bindC
    rw [bindC_keep fun y hy => h y (.tail _ hy)]
    split
    · rfl
    · have : x ≠ n := fun e => h (n, v) (.head _) e.symm
      simp [this]
theorem zip_notin {x : Str} : ∀ {ps : List Str} {vs : List Value}, x ∉ ps → ∀ y ∈ ps.zip vs, y.1 ≠ x := fun {ps vs} h y hy e => h (e ▸ (List.of_mem_zip hy).1)
theorem bindL_zip {kindOf : Str → Option NameKind} {x : Str} (hl : kindOf x = some .local) : ∀ {ps : List Str} {vs : List Value} {m : Str → Option Value} {i : Nat} {v : Value}, ps.Nodup → ps[i]? = some x → vs[i]? = some v → bindL kindOf (ps.zip vs) m x = some v
  | [], _, _, i, _, _, e, _ => by simp at e
  | _ :: _, [], _, i, _, _, _, e => by simp at e
  | p :: ps, w :: vs, m, 0, v, nd, e, e' => by
    simp only [List.getElem?_cons_zero, Option.some.injEq] at e e'
    subst e; subst e'
    rw [List.zip_cons_cons]
    unfold bindL
    rw [bindL_keep (zip_notin (List.nodup_cons.mp nd).1), if_pos hl]; simp
  | p :: ps, w :: vs, m, i + 1, v, nd, e, e' => by
    rw [List.zip_cons_cons]
    unfold bindL
    exact bindL_zip hl (List.nodup_cons.mp nd).2 (by simpa using e) (by simpa using e')
theorem bindC_zip {kindOf : Str → Option NameKind} {x : Str} (hl : kindOf x = some .cell) : ∀ {ps : List Str} {vs : List Value} {m : Str → Option Value} {i : Nat} {v : Value}, ps.Nodup → ps[i]? = some x → vs[i]? = some v → bindC kindOf (ps.zip vs) m x = some v
  | [], _, _, i, _, _, e, _ => by simp at e
  | _ :: _, [], _, i, _, _, _, e => by simp at e
  | p :: ps, w :: vs, m, 0, v, nd, e, e' => by
    simp only [List.getElem?_cons_zero, Option.some.injEq] at e e'
    subst e; subst e'
    rw [List.zip_cons_cons]
    unfold bindC
    rw [bindC_keep (zip_notin (List.nodup_cons.mp nd).1), if_neg (by rw [hl]; decide)]; simp
  | p :: ps, w :: vs, m, i + 1, v, nd, e, e' => by
    rw [List.zip_cons_cons]
    unfold bindC
    exact bindC_zip hl (List.nodup_cons.mp nd).2 (by simpa using e) (by simpa using e')

/-- the slots at the start: the arguments -/
noncomputable def start (ds : List D) (m : Nat) : List S := ds.map .fr ++ List.replicate m .unb
theorem sget_start : ∀ {ds : List D} {m i : Nat} {σ : S}, sget (start ds m) i = σ → (∃ d, ds[i]? = some d ∧ σ = .fr d) ∨ σ = .unb
  | [], m, i, σ, e => by
    have : ∀ m i, sget (start [] m) i = .unb := fun m => by
      induction m with
      | zero => intro i; rfl
      | succ m ih => intro i; cases i with
        | zero => rfl
        | succ i => exact ih i
    exact .inr (by rw [← e, this])
  | d :: ds, m, 0, σ, e => .inl ⟨d, rfl, e.symm⟩
  | d :: ds, m, i + 1, σ, e => by
    rcases sget_start (ds := ds) (m := m) (i := i) e with ⟨d', h1, h2⟩ | h
    · exact .inl ⟨d', by simpa using h1, h2⟩
    · exact .inr h

structure FnAt (W : Gl) (x : Str) (ps : List Str) (body : List Stmt) (sc : Scope) : Prop where
  ex : ∃ a o fd, W.mg x = some (.ref a) ∧ W.h₀.get? a = some o ∧ o.data = .func fd ∧ fd.body = .stmts body ∧ fd.scope = sc ∧ fd.globals = mainGlobals ∧ fd.builtins = builtinsNs ∧ fd.closure = [] ∧ W.h₀.CodeRec fd.code fd.qualname ∧
    ∀ vals, vals.length = ps.length → bindArgs fd ⟨vals, []⟩ = pure (ps.zip vals)

noncomputable def runF (g : List S → Option Fl) (k m : Nat) (ds : List D) : Option D := if Nat.beq ds.length k then (match g (start ds m) with
  | some (.ret d) => some d
  | some (.next _) => some .none
  | _ => none) else none
noncomputable def runFF (g : List S → Option Fl) (k m : Nat) (ds : List D) : Option (List D) := if Nat.beq ds.length k then (match g (start ds m) with
  | some (.retF d) => some d
  | _ => none) else none

theorem fn_enter (B : W.Fine) {ps : List Str} {body : List Stmt} {sc : Scope} {a : Addr} {o : Obj} {fd : FuncData} (m : Nat) (fs : FnS Γ G sc ps)
    (f2 : W.h₀.get? a = some o) (f3 : o.data = .func fd) (f4 : fd.body = .stmts body) (f5 : fd.scope = sc) (f6 : fd.globals = mainGlobals) (f7 : fd.builtins = builtinsNs) (f8 : fd.closure = []) (f9 : W.h₀.CodeRec fd.code fd.qualname)
    (f10 : ∀ vals, vals.length = ps.length → bindArgs fd ⟨vals, []⟩ = pure (ps.zip vals)) {A : Around} {s : Shared} {M : Addr → Prop} {vs : List Value} {ds : List D} {R : Result → Shared → Prop} (ok : Ok (n + 1) A) (base : Keep W.h₀ s.heap)
    (off : ∀ a, M a → W.h₀.get? a = Option.none) (dm : Dom s.heap M) (r : RelAll s.heap M vs ds) (hl : ds.length = ps.length)
    (q : ∀ env h1 tk1 M1, env.frame = some env.locals → env.locals = s.heap.objs.size → Cx W n Γ G (A.deeper env) env ⟨s.heap.get?⟩ M → St Γ env ⟨s.heap.get?⟩ M (start ds m) h1 M1 (fun _ => 0) →
      wpAny (model W.prog W.w) (A.deeper env) (execs body env) (fun f s' => R (.ok (.ret (match f with | .ret v => v | _ => .none))) s')
        (fun e s' => wpAny (model W.prog W.w) (A.deeper env) (leaving env e) (fun _ s'' => R (.error e) s'') (fun e' s'' => R (.error e') s'') s') { s with heap := h1, toks := tk1 }) : codeAny (model W.prog W.w) A (.call (.ref a) ⟨vs, []⟩) R s := by
  have hlv : vs.length = ps.length := by rw [r.length, hl]
  refine codeAny_call_cells ok.room (base _ _ f2) f3 (B.nolimit.keeps base) (f9.keeps base) f4 (f10 vs hlv) f8 (fun x hx => ?_) (fun s₁ X => ?_) (f5 ▸ fs.co) (f5 ▸ fs.gen) (f5 ▸ fs.kind)
  · obtain ⟨i, hi⟩ := List.getElem?_of_mem (List.of_mem_zip hx).1
    obtain ⟨k, h1, h2⟩ := fs.par i _ hi
    rw [f5]
    cases k with
    | no => exact absurd rfl h2
    | loc => exact .inl (fs.loc i _ h1)
    | cel => exact .inr ⟨fs.cel i _ h1, cellsFrom_some _ _ _ (.inl (fs.cel i _ h1))⟩
  · have hloc : (callEnvC fd s.heap.objs.size a).locals = s.heap.objs.size := rfl
    have hsc : (callEnvC fd s.heap.objs.size a).scope = sc := by rw [← f5]; rfl
    have hgl : (callEnvC fd s.heap.objs.size a).globals = mainGlobals := by rw [← f6]; rfl
    have hbl : (callEnvC fd s.heap.objs.size a).builtins = builtinsNs := by rw [← f7]; rfl
    have hfr : (callEnvC fd s.heap.objs.size a).frame = some (callEnvC fd s.heap.objs.size a).locals := rfl
    have hco : ∀ x, sc.names.lookup x = some .cell → ((callEnvC fd s.heap.objs.size a).cells.lookup x).isSome = true := fun x hx => by
      rw [← f5] at hx
      exact cellsFrom_some _ _ _ (.inl hx)
    generalize callEnvC fd s.heap.objs.size a = env at *
    have hko : ∀ x, env.kindOf x = sc.names.lookup x := fun x => by rw [← hsc]; rfl
    obtain ⟨h1, tk1, rfl⟩ := X.toInCall.same
    have k1 : Keep s.heap h1 := X.toInCall.keep
    have hns := X.toInCall.ns
    have hm := hns.eq_nsMap
    have hL0 : s.heap.get? env.locals = none := by rw [hloc]; exact get_size _
    have hC0 : ∀ x c, env.cells.lookup x = some c → s.heap.get? c = none := fun x c e => by
      have := X.above x c (mem_of_lookup e)
      rw [hloc] at this
      cases g : s.heap.get? c with
      | none => rfl
      | some o => exact absurd (Heap.lt_size g) (Nat.not_lt.mpr (Nat.le_of_lt this))
    have esx : EnvS Γ G env := ⟨by rw [hsc]; exact fs.kind, hgl, hbl, fun i x e => by rw [hko]; exact fs.loc i x e, fun i x e => by rw [hko]; exact fs.cel i x e, fun x e => by rw [hko]; exact fs.gl x e,
      fun x y c e e' => name_of_addr X.apart (mem_of_lookup e) (mem_of_lookup e'), fs.nd, fs.ndG, fs.one⟩
    let M1 : Addr → Prop := fun b => M b ∨ b = env.locals ∨ ∃ x, env.cells.lookup x = some b
    have nw : ∀ b, M1 b → M b ∨ s.heap.get? b = none := fun b mb => by
      rcases mb with x | rfl | ⟨x, e⟩
      · exact .inl x
      · exact .inr hL0
      · exact .inr (hC0 x b e)
    have cellAt : ∀ x c, env.cells.lookup x = some c → h1.get? c ≠ none := fun x c e => by
      obtain ⟨o, g, _⟩ := X.cell x c e
      exact dom_some g
    have dm1 : ∀ b, M1 b → h1.get? b ≠ none := fun b mb => by
      rcases mb with x | rfl | ⟨x, e⟩
      · cases g : s.heap.get? b with
        | none => exact absurd g (dm b x)
        | some o => rw [k1 b o g]; simp
      · obtain ⟨o, _, _, g, _⟩ := hns
        exact dom_some g
      · exact cellAt x b e
    have arg : ∀ i d, ds[i]? = some d → ∃ x k v, Γ[i]? = some (x, k) ∧ ps[i]? = some x ∧ vs[i]? = some v ∧ Rel h1 M1 v d := fun i d e => by
      obtain ⟨v, hv, rv⟩ := r.get e
      have hi : i < ps.length := by rw [← hl]; exact (List.getElem?_eq_some_iff.mp e).1
      obtain ⟨k, h2, _⟩ := fs.par i ps[i] (List.getElem?_eq_getElem hi)
      exact ⟨_, k, v, h2, List.getElem?_eq_getElem hi, hv, (rv.more nw).keep k1⟩
    have eo : EnvOk Γ env (start ds m) h1 M1 (fun _ => 0) := by
      refine ⟨hm ▸ hns, .inr (.inl rfl), dm1, fun i x hx => ?_, fun i x hx => ?_, fun i j es fs h1 => ?_, fun i es h1 => ?_, fun i es h1 => ?_⟩
      · rcases sget_start (rfl : sget (start ds m) i = _) with ⟨d, e1, e2⟩ | e2
        · rw [e2]
          obtain ⟨x', k, v, q1, q2, q3, q4⟩ := arg i d e1
          rw [hx] at q1; cases q1
          refine ⟨v, ?_, q4⟩
          rw [← hm]
          exact bindL_zip (esx.loc i x hx) fs.nodup q2 q3
        · rw [e2]; trivial
      · obtain ⟨c, hc⟩ := Option.isSome_iff_exists.mp (hco x (fs.cel i x hx))
        refine ⟨c, _, hc, X.cell x c hc, .inr (.inr ⟨x, hc⟩), ?_⟩
        rcases sget_start (rfl : sget (start ds m) i = _) with ⟨d, e1, e2⟩ | e2
        · rw [e2]
          obtain ⟨x', k, v, q1, q2, q3, q4⟩ := arg i d e1
          rw [hx] at q1; cases q1
          exact ⟨v, bindC_zip (esx.cel i x hx) fs.nodup q2 q3, q4⟩
        · rw [e2]; trivial
      · rcases sget_start h1 with ⟨d, _, e2⟩ | e2 <;> cases e2
      · rcases sget_start h1 with ⟨d, _, e2⟩ | e2 <;> cases e2
      · rcases sget_start h1 with ⟨d, _, e2⟩ | e2 <;> cases e2
    have cx : Cx W n Γ G (A.deeper env) env ⟨s.heap.get?⟩ M := ⟨ok.deeper env, esx, base, off, dm, hL0, fun i x c _ e => hC0 x c e⟩
    have st : St Γ env ⟨s.heap.get?⟩ M (start ds m) h1 M1 (fun _ => 0) := ⟨eo, k1, fun b mb => .inl mb, nw, fun i es h1 => by rcases sget_start h1 with ⟨d, _, e2⟩ | e2 <;> cases e2⟩
    exact q env h1 tk1 M1 hfr hloc cx st

theorem fn_core (B : W.Fine) {ps : List Str} {body : List Stmt} {sc : Scope} {g : List S → Option Fl} {a : Addr} {o : Obj} {fd : FuncData} (m : Nat) (fs : FnS Γ G sc ps) (hb : DenS W n Γ G body g)
    (f2 : W.h₀.get? a = some o) (f3 : o.data = .func fd) (f4 : fd.body = .stmts body) (f5 : fd.scope = sc) (f6 : fd.globals = mainGlobals) (f7 : fd.builtins = builtinsNs) (f8 : fd.closure = []) (f9 : W.h₀.CodeRec fd.code fd.qualname)
    (f10 : ∀ vals, vals.length = ps.length → bindArgs fd ⟨vals, []⟩ = pure (ps.zip vals)) {A : Around} {s : Shared} {M : Addr → Prop} {vs : List Value} {ds : List D} {fl : Fl} {R : Result → Shared → Prop} (ok : Ok (n + 1) A) (base : Keep W.h₀ s.heap)
    (off : ∀ a, M a → W.h₀.get? a = Option.none) (dm : Dom s.heap M) (r : RelAll s.heap M vs ds) (hl : ds.length = ps.length) (hg : g (start ds m) = some fl)
    (q : match fl with
      | .ret d => ∀ v h' tk, Keep s.heap h' → Rel h' M v d → R (.ok (.ret v)) { s with heap := h', toks := tk }
      | .retF ds => ∀ a vs k h' tk, Keep s.heap h' → s.heap.get? a = none → h'.get? a = some (lstO vs k) → RelAll h' (fun b => b = a ∨ M b) vs ds → R (.ok (.ret (.ref a))) { s with heap := h', toks := tk }
      | .next _ => ∀ h' tk, Keep s.heap h' → R (.ok (.ret .none)) { s with heap := h', toks := tk }
      | .cont _ => False) : codeAny (model W.prog W.w) A (.call (.ref a) ⟨vs, []⟩) R s := by
  refine fn_enter B m fs f2 f3 f4 f5 f6 f7 f8 f9 f10 ok base off dm r hl fun env h1 tk1 M1 _ _ cx st => ?_
  refine hb (A.deeper env) env { s with heap := h1, toks := tk1 } ⟨s.heap.get?⟩ M M1 (start ds m) (fun _ => 0) fl _ _ cx st hg ?_
  cases fl with
  | next ρ' => exact fun h' tk M' oa' _ t => q h' tk t.kb
  | cont ρ' => exact q.elim
  | ret d => exact fun v h' tk k r => q v h' tk k r
  | retF ds => exact fun a vs c h' tk k e g r => q a vs c h' tk k e g r

theorem Contract.of (B : W.Fine) {x : Str} {ps : List Str} {body : List Stmt} {sc : Scope} {g : List S → Option Fl} (m : Nat) (F : FnAt W x ps body sc) (fs : FnS Γ G sc ps) (hb : DenS W n Γ G body g) : Contract W x (n + 1) (runF g ps.length m) := by
  obtain ⟨a, o, fd, f1, f2, f3, f4, f5, f6, f7, f8, f9, f10⟩ := F.ex
  refine ⟨a, o, fd, f1, f2, f3, fun A s M vs ds d Q E ok base off dm r e q => ?_⟩
  unfold runF at e
  split at e
  · rename_i hl
    have hl : ds.length = ps.length := Nat.eq_of_beq_eq_true hl
    split at e
    · rename_i d' hg
      cases e
      exact wpAny_call (fn_core B m fs hb f2 f3 f4 f5 f6 f7 f8 f9 f10 ok base off dm r hl hg fun v h' tk k r => q v h' tk k r)
    · rename_i ρ' hg
      cases e
      exact wpAny_call (fn_core B m fs hb f2 f3 f4 f5 f6 f7 f8 f9 f10 ok base off dm r hl hg fun h' tk k => q .none h' tk k .none)
    · cases e
  · cases e
theorem ContractF.of (B : W.Fine) {x : Str} {ps : List Str} {body : List Stmt} {sc : Scope} {g : List S → Option Fl} (m : Nat) (F : FnAt W x ps body sc) (fs : FnS Γ G sc ps) (hb : DenS W n Γ G body g) : ContractF W x (n + 1) (runFF g ps.length m) := by
  obtain ⟨a, o, fd, f1, f2, f3, f4, f5, f6, f7, f8, f9, f10⟩ := F.ex
  refine ⟨a, o, fd, f1, f2, f3, fun A s M vs ds d Q E ok base off dm r e q => ?_⟩
  unfold runFF at e
  split at e
  · rename_i hl
    have hl : ds.length = ps.length := Nat.eq_of_beq_eq_true hl
    split at e
    · rename_i d' hg
      cases e
      exact wpAny_call (fn_core B m fs hb f2 f3 f4 f5 f6 f7 f8 f9 f10 ok base off dm r hl hg fun a vs c h' tk k e g r => q a vs c h' tk k e g r)
    · cases e
  · cases e
theorem Contract.weak {W : Gl} {x : Str} {r : Nat} {F G : List D → Option D} (h : Contract W x r F) (e : ∀ ds d, G ds = some d → F ds = some d) : Contract W x r G := by
  obtain ⟨a, o, fd, f1, f2, f3, f4⟩ := h
  exact ⟨a, o, fd, f1, f2, f3, fun A s M vs ds d Q E ok b off dm r eg => f4 A s M vs ds d Q E ok b off dm r (e ds d eg)⟩
end
end Gos
end

section
open PySem PySem.W PyProof.Rows
namespace Gos
open PySem

section
variable {W : Gl} {n : Nat} {Γ : Lay} {G : List Str}

/-- a statement that leaves its owned objects where they are -/
noncomputable def DenK (W : Gl) (n : Nat) (Γ : Lay) (G : List Str) (st : Stmt) (g : List S → Option (List S)) : Prop :=
  ∀ A env s hb M₀ M ρ oa ρ' Q E, Cx W n Γ G A env hb M₀ → St Γ env hb M₀ ρ s.heap M oa → g ρ = some ρ' → (∀ h' tk, Step M s.heap M h' → St Γ env hb M₀ ρ' h' M oa → Q .next { s with heap := h', toks := tk }) → wpAny (model W.prog W.w) A (exec st env) Q E s
noncomputable def setOK (i : Nat) (ρ : List S) (a b : Option D) : Option (List S) := match setOF i ρ a b with
  | some (.next ρ') => some ρ'
  | _ => none
theorem DenK.setItem (i : Nat) {x : Str} {kd : VK} {e ei : Expr} {p sp pos : Pos} {f fi : List S → Option D} (ha : DenE W n Γ G e f) (hi : DenE W n Γ G ei fi) (hx : Γ[i]? = some (x, kd) := by rfl) (hk : kd ≠ .no := by decide)
    (hs : ∀ env, EnvS Γ G env → swapsWith e (some (.Subscript (.Name x p) ei sp)) pos.line env = pure false := by intro _ _; rfl) : DenK W n Γ G (.Assign [.Subscript (.Name x p) ei sp] e pos) (fun ρ => setOK i ρ (fi ρ) (f ρ)) := fun A env s hb M₀ M ρ oa ρ' Q E cx t e q => by
  have e : setOK i ρ (fi ρ) (f ρ) = some ρ' := e
  unfold setOK at e
  split at e
  · rename_i ρ'' e'
    cases e
    obtain ⟨xs, k, d, ys, h1, h2, h3, h4, h5⟩ := setOF_some e'
    cases h5
    have P := cx.pre t
    refine wpAny_Assign_Subscript (ha A env s M ρ oa d _ E P h3 fun v hv tkv kv rv => ?_) (hs env cx.es)
    have P1 := P.up (tk := tkv) kv
    refine ownName P1 i hx hk h1 fun vs c m g r => ?_
    refine hi A env _ M ρ oa k _ E P1 h2 fun u hu tku ku ru => ?_
    refine storeItem (s := { s with heap := hu, toks := tku }) ((t.keep kv).keep ku) (eown_some h1) m (ku _ _ g) (r.keep ku) ru (rv.keep ku) h4 fun h' st t' => ?_
    exact q h' tku (((Step.of_keep kv).trans (.of_keep ku)).trans st) t'
  · cases e

/-- own[i1], own[i2] = (own[i2], own[i1]) -/
noncomputable def swapOK (i : Nat) (ρ : List S) (a b : Option D) : Option (List S) := match eown i ρ, a, b with
  | some xs, some k1, some k2 => (match didxO xs k2, didxO xs k1 with
    | some d1, some d2 => (match setO xs k1 d1 with
      | some ys => (match setO ys k2 d2 with
        | some zs => some (sset (sset ρ i (.own (.lst ys))) i (.own (.lst zs)))
        | none => none)
      | none => none)
    | _, _ => none)
  | _, _, _ => none
theorem swapOK_some {i : Nat} {ρ ρ' : List S} {a b : Option D} (h : swapOK i ρ a b = some ρ') : ∃ xs k1 k2 d1 d2 ys zs, eown i ρ = some xs ∧ a = some k1 ∧ b = some k2 ∧ didxO xs k2 = some d1 ∧ didxO xs k1 = some d2 ∧ setO xs k1 d1 = some ys ∧ setO ys k2 d2 = some zs ∧
    ρ' = sset (sset ρ i (.own (.lst ys))) i (.own (.lst zs)) := by
  unfold swapOK at h
  split at h
  · rename_i xs k1 k2 h1
    split at h
    · rename_i d1 d2 h2 h3
      split at h
      · rename_i ys h4
        split at h
        · rename_i zs h5; cases h; exact ⟨xs, k1, k2, d1, d2, ys, zs, h1, rfl, rfl, h2, h3, h4, h5, rfl⟩
        · cases h
      · cases h
    · cases h
  · cases h
theorem sget_self {i : Nat} {ρ : List S} {σ : S} (h : sget ρ i ≠ .unb) : sget (sset ρ i σ) i = σ := by
  induction ρ generalizing i with
  | nil => exact absurd rfl h
  | cons s r ih =>
    cases i with
    | zero => rfl
    | succ i => exact ih h
theorem DenK.swap (i i1 i2 : Nat) {x y z : Str} {kd k1 k2 : VK} {p1 p2 p3 p4 q1 q2 q3 q4 s1 s2 s3 s4 tp vp pos : Pos} {x1 x2 : Nat} (hn : 1 ≤ n) (hx : Γ[i]? = some (x, kd)) (hk : kd ≠ .no) (hy : Γ[i1]? = some (y, k1)) (hky : k1 ≠ .no) (hz : Γ[i2]? = some (z, k2)) (hkz : k2 ≠ .no)
    (n1 : i ≠ i1) (n2 : i ≠ i2) :
    DenK W n Γ G (.Assign [.Tuple [.Subscript (.Name x p1) (.Name y q1) s1, .Subscript (.Name x p2) (.Name z q2) s2] x1 tp] (.Tuple [.Subscript (.Name x p3) (.Name z q3) s3, .Subscript (.Name x p4) (.Name y q4) s4] x2 vp) pos)
      (fun ρ => swapOK i ρ (evar i1 ρ) (evar i2 ρ)) := fun A env s hb M₀ M ρ oa ρ' Q E cx t e q => by
  have e : swapOK i ρ (evar i1 ρ) (evar i2 ρ) = some ρ' := e
  obtain ⟨xs, a1, a2, d1, d2, ys, zs, h1, h2, h3, h4, h5, h6, h7, rfl⟩ := swapOK_some e
  have P := cx.pre t
  have hw : swappedStores [.Tuple [.Subscript (.Name x p1) (.Name y q1) s1, .Subscript (.Name x p2) (.Name z q2) s2] x1 tp] (.Tuple [.Subscript (.Name x p3) (.Name z q3) s3, .Subscript (.Name x p4) (.Name y q4) s4] x2 vp) env = pure none := by
    unfold swappedStores
    rw [blockKind_of cx.es]
    rfl
  have D1 : DenE W n Γ G (.Subscript (.Name x p3) (.Name z q3) s3) (fun ρ => bind2 didxO (eown i ρ) (evar i2 ρ)) := DenE.oidx i (DenE.var i2 hz hkz) hx hk rfl
  have D2 : DenE W n Γ G (.Subscript (.Name x p4) (.Name y q4) s4) (fun ρ => bind2 didxO (eown i ρ) (evar i1 ρ)) := DenE.oidx i (DenE.var i1 hy hky) hx hk rfl
  have DT := DenE.tup (W := W) (n := n) (Γ := Γ) (G := G) (k := x2) (pos := vp) (DenA.cons D1 (DenA.cons D2 DenA.nil))
  refine Assign_Tuple (DT A env s M ρ oa (.tuple [d1, d2]) _ E P (by simp only [h1, h2, h3, bind2_s, h4, h5, consD, bind1_s]; rfl) fun v hv tkv kv rv => ?_) rfl hw
  cases rv with
  | tup mv gv rr =>
    rename_i av us kk
    obtain ⟨u1, u2, rfl, r1, r2⟩ := rr.two
    refine wpAny_assign_Tuple cx.ok.hd (isTup_of gv) rfl rfl fun ha ka => ?_
    have k2' : Keep hv ha := extBut_size ka
    have P1 := (P.up (tk := tkv) kv).up (tk := tkv) k2'
    have t1 := (t.keep kv).keep k2'
    show wpAny _ _ (do holding [u2] (PySem.assign (.Subscript (.Name x p1) (.Name y q1) s1) env u1); assignInOrder [PySem.assign (.Subscript (.Name x p2) (.Name z q2) s2) env] [u2]) _ _ _
    have one : ∀ {j : Nat} {w : Str} {kw : VK} {pa pb pc : Pos} {sX : Shared} {ρX : List S} {xsX ysX : List D} {uX : Value} {dX kX : D} {QX : Unit → Shared → Prop}, Γ[j]? = some (w, kw) → kw ≠ .no → Pre W n Γ G A env sX M ρX oa → St Γ env hb M₀ ρX sX.heap M oa → eown i ρX = some xsX → evar j ρX = some kX →
        Rel sX.heap M uX dX → setO xsX kX dX = some ysX → (∀ h' tk, Step M sX.heap M h' → St Γ env hb M₀ (sset ρX i (.own (.lst ysX))) h' M oa → QX () { sX with heap := h', toks := tk }) →
        wpAny (model W.prog W.w) A (PySem.assign (.Subscript (.Name x pa) (.Name w pb) pc) env uX) QX E sX := fun {j w kw pa pb pc sX ρX xsX ysX uX dX kX QX} hj hkj PX tX e1 e2 rX e3 qX => by
      rw [assign_Subscript]
      refine wpAny_bind (wpAny_holding (ownName PX i hx hk e1 fun vs c m g r => ?_))
      refine wpAny_bind (wpAny_holding (DenE.var j hj hkj A env sX M ρX oa kX _ E PX e2 fun ui hi tki ki ri => ?_))
      refine wpAny_bind (wpAny_standAt (wpAny_bind (wpAny_holding ?_)))
      refine storeItem (s := { sX with heap := hi, toks := tki }) (tX.keep ki) (eown_some e1) m (ki _ _ g) (r.keep ki) ri (rX.keep ki) e3 fun h' st t' => ?_
      exact wpAny_rel (qX h' tki ((Step.of_keep ki).trans st) t')
    refine wpAny_bind (wpAny_holding (one hy hky P1 t1 h1 h2 (r1.keep k2') h6 fun hb1 tkb stb tb => ?_))
    have P2 : Pre W n Γ G A env { s with heap := hb1, toks := tkb } M (sset ρ i (.own (.lst ys))) oa := cx.pre (s := { s with heap := hb1, toks := tkb }) tb
    have e1 : eown i (sset ρ i (.own (.lst ys))) = some ys := by
      unfold eown; rw [sget_self (by rw [eown_some h1]; simp)]
    have e2 : evar i2 (sset ρ i (.own (.lst ys))) = some a2 := by
      unfold evar at h3 ⊢; rw [sget_sset_ne n2]; exact h3
    show wpAny _ _ (do holding [] (PySem.assign (.Subscript (.Name x p2) (.Name z q2) s2) env u2); assignInOrder [] []) _ _ _
    refine wpAny_bind (wpAny_holding (one hz hkz P2 tb e1 e2 (stb.rel (r2.keep k2')) h7 fun hc tkc stc tc => ?_))
    exact wpAny_pure (q hc tkc (((Step.of_keep kv).trans (.of_keep k2')).trans (stb.trans stc)) tc)

/- a def that turns its first argument -/
noncomputable def ContractIO (W : Gl) (x : Str) (r : Nat) (F : List D → List D → Option (List D)) : Prop :=
  ∃ a o fd, W.mg x = some (.ref a) ∧ W.h₀.get? a = some o ∧ o.data = .func fd ∧
    ∀ A s M b vs c xs us ds ys (Q : Value → Shared → Prop) E, Ok r A → Keep W.h₀ s.heap → (∀ a, M a → W.h₀.get? a = Option.none) → Dom s.heap M → M b → s.heap.get? b = some (lstO vs c) → RelAll s.heap M vs xs → RelAll s.heap M us ds → F xs ds = some ys →
      (∀ h' tk vs' c', (∀ e o, e ≠ b → s.heap.get? e = some o → h'.get? e = some o) → h'.get? b = some (lstO vs' c') → RelAll h' M vs' ys → Q .none { s with heap := h', toks := tk }) →
      wpAny (model W.prog W.w) A (call (.ref a) (.ref b :: us) []) Q E s
noncomputable def runIO (g : List S → Option (List S)) (k m : Nat) (xs ds : List D) : Option (List D) := if Nat.beq ds.length k then (match g (.own (.lst xs) :: start ds m) with
  | some ρ' => (match sget ρ' 0 with | .own (.lst ys) => some ys | _ => none)
  | none => none) else none
noncomputable def ioF (i : Nat) (F : List D → List D → Option (List D)) (ρ : List S) (a : Option (List D)) : Option Fl := match eown i ρ, a with
  | some xs, some ds => (match F xs ds with | some ys => some (.next (sset ρ i (.own (.lst ys)))) | none => none)
  | _, _ => none
theorem ioF_some {i : Nat} {F : List D → List D → Option (List D)} {ρ : List S} {a : Option (List D)} {fl : Fl} (h : ioF i F ρ a = some fl) : ∃ xs ds ys, eown i ρ = some xs ∧ a = some ds ∧ F xs ds = some ys ∧ fl = .next (sset ρ i (.own (.lst ys))) := by
  unfold ioF at h
  split at h
  · rename_i xs ds h1
    split at h
    · rename_i ys h2; cases h; exact ⟨xs, ds, ys, h1, rfl, h2, rfl⟩
    · cases h
  · cases h
theorem DenO.io (i : Nat) (B : W.Ok) {x f : Str} {kd : VK} {r : Nat} {F : List D → List D → Option (List D)} {es : List Expr} {fs : List S → Option (List D)} {p q cp pos : Pos} (C : ContractIO W f r F) (ha : DenA W n Γ G es fs) (hx : Γ[i]? = some (x, kd) := by rfl) (hk : kd ≠ .no := by decide)
    (hf : f ∈ G := by decide +kernel) (hr : r + 1 ≤ n := by decide) : DenO W n Γ G (.Expr (.Call (.Name f p) (.Name x q :: es) [] cp) pos) (fun ρ => ioF i F ρ (fs ρ)) := fun A env s hb M₀ M ρ oa fl Q E cx t e q' => by
  obtain ⟨xs, ds, ys, h1, h2, h3, rfl⟩ := ioF_some e
  have P := cx.pre t
  obtain ⟨a, o, fd, c1, c2, c3, c4⟩ := C
  refine wpAny_Expr ?_ (inter_false cx.es) rfl
  refine wpAny_Call_NameR (nameGlob B P hf c1 ?_)
  refine PyProof.Rows.callWith_def c3 (PyProof.Rows.args_cons (ownName P i hx hk h1 fun vs c m g rr => ha A env s M ρ oa ds _ E cp P h2 fun us h1' tk1 k1 r1 => ⟨k1 _ _ (P.base _ _ c2), ?_⟩)) (starEach_cons rfl)
  refine c4 A { s with heap := h1', toks := tk1 } M (oa i) vs c xs us ds ys _ E (cx.ok.less (by omega)) (P.base.trans k1) P.off (t.keep k1).env.dom m (k1 _ _ g) (rr.keep k1) r1 h3 fun h' tk vs' c' kp g' r' => ?_
  have st : Step M h1' M h' := ⟨fun b o nb e => kp b o (fun x => nb (x ▸ m)) e, fun _ x => .inl x⟩
  exact q' h' tk M oa ((Step.of_keep k1).trans st) ((t.keep k1).setOwnX (eown_some h1) ⟨vs, c, k1 _ _ g, rr.keep k1⟩ kp ⟨vs', c', g', r'⟩)

theorem ContractIO.of (B : W.Fine) {x : Str} {ps : List Str} {st : Stmt} {sc : Scope} {g : List S → Option (List S)} (m : Nat) (F : FnAt W x ps [st] sc) (fs : FnS Γ G sc ps) (hp : ps ≠ []) (hb : DenK W n Γ G st g) : ContractIO W x (n + 1) (runIO g (ps.length - 1) m) := by
  obtain ⟨a, o, fd, f1, f2, f3, f4, f5, f6, f7, f8, f9, f10⟩ := F.ex
  refine ⟨a, o, fd, f1, f2, f3, fun A s M b vs c xs us ds ys Q E ok base off dm mb gb r ru e q => ?_⟩
  unfold runIO at e
  split at e
  · rename_i hl
    have hl : ds.length = ps.length - 1 := Nat.eq_of_beq_eq_true hl
    have hpl : 0 < ps.length := List.length_pos_iff.mpr hp
    split at e
    · rename_i ρ' hg
      split at e
      · rename_i ys' hys
        cases e
        have hlv : (Value.ref b :: us).length = ps.length := by rw [List.length_cons, ru.length, hl]; omega
        refine wpAny_call (codeAny_call_cells ok.room (base _ _ f2) f3 (B.nolimit.keeps base) (f9.keeps base) f4 (f10 _ hlv) f8 (fun x hx => ?_) (fun s₁ X => ?_) (f5 ▸ fs.co) (f5 ▸ fs.gen) (f5 ▸ fs.kind))
        · obtain ⟨i, hi⟩ := List.getElem?_of_mem (List.of_mem_zip hx).1
          obtain ⟨k, h1, h2⟩ := fs.par i _ hi
          rw [f5]
          cases k with
          | no => exact absurd rfl h2
          | loc => exact .inl (fs.loc i _ h1)
          | cel => exact .inr ⟨fs.cel i _ h1, cellsFrom_some _ _ _ (.inl (fs.cel i _ h1))⟩
        · have hloc : (callEnvC fd s.heap.objs.size a).locals = s.heap.objs.size := rfl
          have hsc : (callEnvC fd s.heap.objs.size a).scope = sc := by rw [← f5]; rfl
          have hgl : (callEnvC fd s.heap.objs.size a).globals = mainGlobals := by rw [← f6]; rfl
          have hbl : (callEnvC fd s.heap.objs.size a).builtins = builtinsNs := by rw [← f7]; rfl
          have hco : ∀ x, sc.names.lookup x = some .cell → ((callEnvC fd s.heap.objs.size a).cells.lookup x).isSome = true := fun x hx => by
            rw [← f5] at hx
            exact cellsFrom_some _ _ _ (.inl hx)
          generalize callEnvC fd s.heap.objs.size a = env at *
          have hko : ∀ x, env.kindOf x = sc.names.lookup x := fun x => by rw [← hsc]; rfl
          obtain ⟨h1, tk1, rfl⟩ := X.toInCall.same
          have k1 : Keep s.heap h1 := X.toInCall.keep
          have hns := X.toInCall.ns
          have hm := hns.eq_nsMap
          have hL0 : s.heap.get? env.locals = none := by rw [hloc]; exact get_size _
          have hC0 : ∀ x c, env.cells.lookup x = some c → s.heap.get? c = none := fun x c e => by
            have := X.above x c (mem_of_lookup e)
            rw [hloc] at this
            cases g : s.heap.get? c with
            | none => rfl
            | some o => exact absurd (Heap.lt_size g) (Nat.not_lt.mpr (Nat.le_of_lt this))
          have esx : EnvS Γ G env := ⟨by rw [hsc]; exact fs.kind, hgl, hbl, fun i x e => by rw [hko]; exact fs.loc i x e, fun i x e => by rw [hko]; exact fs.cel i x e, fun x e => by rw [hko]; exact fs.gl x e,
            fun x y c e e' => name_of_addr X.apart (mem_of_lookup e) (mem_of_lookup e'), fs.nd, fs.ndG, fs.one⟩
          let M1 : Addr → Prop := fun b => M b ∨ b = env.locals ∨ ∃ x, env.cells.lookup x = some b
          have nw : ∀ b, M1 b → M b ∨ s.heap.get? b = none := fun b mb => by
            rcases mb with x | rfl | ⟨x, e⟩
            · exact .inl x
            · exact .inr hL0
            · exact .inr (hC0 x b e)
          have dm1 : ∀ b, M1 b → h1.get? b ≠ none := fun b mb => by
            rcases mb with x | rfl | ⟨x, e⟩
            · cases g : s.heap.get? b with
              | none => exact absurd g (dm b x)
              | some o => rw [k1 b o g]; simp
            · obtain ⟨o, _, _, g, _⟩ := hns
              exact dom_some g
            · obtain ⟨o, g, _⟩ := X.cell x b e
              exact dom_some g
          have kT : Trees s.heap M h1 M1 := (Trees.more nw).trans (Trees.keep k1)
          have hLb : env.locals ≠ b := fun e => by rw [e, gb] at hL0; cases hL0
          obtain ⟨k0, hx0, hk0⟩ := fs.par 0 ps[0] (List.getElem?_eq_getElem hpl)
          -- the value of slot i
          have slotv : ∀ (i : Nat) x k ov, Γ[i]? = some (x, k) → k ≠ .no → (∀ v, ps[i]? = some x → (Value.ref b :: us)[i]? = some v → ov = some v) → SV h1 M1 b (sget (.own (.lst xs) :: start ds m) i) ov := fun i x k ov hx hk hv => by
            cases i with
            | zero =>
              rw [hx0] at hx; cases hx
              exact ⟨hv _ (List.getElem?_eq_getElem hpl) rfl, .inl mb, vs, c, k1 _ _ gb, r.to kT⟩
            | succ i =>
              show SV h1 M1 b (sget (start ds m) i) ov
              rcases sget_start (rfl : sget (start ds m) i = _) with ⟨d, e1, e2⟩ | e2
              · rw [e2]
                obtain ⟨v, hv', rv⟩ := ru.get e1
                have hi : i + 1 < ps.length := by have := (List.getElem?_eq_some_iff.mp e1).1; omega
                obtain ⟨k', h2, _⟩ := fs.par (i + 1) ps[i + 1] (List.getElem?_eq_getElem hi)
                rw [hx] at h2; cases h2
                exact ⟨v, hv v (List.getElem?_eq_getElem hi) (by simpa using hv'), rv.to kT⟩
              · rw [e2]; trivial
          have ownI : ∀ i p, sget (.own (.lst xs) :: start ds m) i = .own p → i = 0 ∧ p = .lst xs := fun i p e => by
            cases i with
            | zero => cases e; exact ⟨rfl, rfl⟩
            | succ i => rcases sget_start (show sget (start ds m) i = .own p from e) with ⟨d, _, e2⟩ | e2 <;> cases e2
          have eo : EnvOk Γ env (.own (.lst xs) :: start ds m) h1 M1 (fun _ => b) := by
            refine ⟨hm ▸ hns, .inr (.inl rfl), dm1, fun i x hx => ?_, fun i x hx => ?_, fun i j p q h1 h2 _ => by rw [(ownI i p h1).1, (ownI j q h2).1], fun i p _ => .inl mb, fun i p _ => hLb⟩
            · refine slotv i x _ _ hx (by decide) fun v e1 e2 => ?_
              rw [← hm]
              exact bindL_zip (esx.loc i x hx) fs.nodup e1 e2
            · obtain ⟨c', hc⟩ := Option.isSome_iff_exists.mp (hco x (fs.cel i x hx))
              exact ⟨c', _, hc, X.cell x c' hc, .inr (.inr ⟨x, hc⟩), slotv i x _ _ hx (by decide) fun v e1 e2 => bindC_zip (esx.cel i x hx) fs.nodup e1 e2⟩
          let hb0 : PH := ⟨fun e => if e = b then none else s.heap.get? e⟩
          have hbn : ∀ e, s.heap.get? e = none → hb0.get? e = none := fun e he => by
            show (if e = b then none else s.heap.get? e) = none
            split
            · rfl
            · exact he
          have cx : Cx W n Γ G (A.deeper env) env hb0 (fun e => M e ∧ e ≠ b) := ⟨ok.deeper env, esx, fun e o he => by
              have : e ≠ b := fun x => by rw [x, off b mb] at he; cases he
              show (if e = b then none else s.heap.get? e) = some o
              rw [if_neg this]; exact base e o he, fun e me => off e me.1, fun e me => by
              show (if e = b then none else s.heap.get? e) ≠ none
              rw [if_neg me.2]; exact dm e me.1, hbn _ hL0, fun i x c' _ e => hbn _ (hC0 x c' e)⟩
          have st0 : St Γ env hb0 (fun e => M e ∧ e ≠ b) (.own (.lst xs) :: start ds m) h1 M1 (fun _ => b) := ⟨eo, fun e o he => by
              have he : (if e = b then none else s.heap.get? e) = some o := he
              split at he
              · cases he
              · exact k1 e o he, fun e me => .inl me.1, fun e me => by
              by_cases x : e = b
              · refine .inr ?_
                show (if e = b then none else s.heap.get? e) = none
                rw [if_pos x]
              · exact (nw e me).imp (fun y => ⟨y, x⟩) (hbn e), fun i p _ => by
              show (if b = b then none else s.heap.get? b) = none
              rw [if_pos rfl]⟩
          refine wpAny_execs_cons (hb (A.deeper env) env { s with heap := h1, toks := tk1 } hb0 _ M1 (.own (.lst xs) :: start ds m) (fun _ => b) ρ' _ _ cx st0 hg fun h2 tk2 st2 t2 => wpAny_execs_nil ?_)
          obtain ⟨_, vs', c', g', r'⟩ := t2.env.ownAt hys hx0 hk0
          refine q h2 tk2 vs' c' (fun e o ne he => t2.kb e o ?_) g' (r'.less fun e me => .inl me)
          show (if e = b then none else s.heap.get? e) = some o
          rw [if_neg ne]; exact he
      · cases e
    · cases e
  · cases e
end
end Gos
end

section
open PySem PySem.W PyProof.Rows
namespace Gos
open PySem

/- a table whose keys are pairs of ints -/
theorem items_conv {prog prog' : Program} {w w' : World} {ks : List Int} {vs : List Value} (x : ItemsAre (intKind prog w) ks vs) : ItemsAre (intKind prog' w') ks vs := by
  induction x with
  | nil => exact .nil
  | cons a _ ih => exact .cons a ih
theorem dictOf_conv {prog prog' : Program} {w w' : World} {h : Heap} {a : Addr} {xs : List (List Int × Addr × Value)} (x : h.DictOfH (tupleKind (intKind prog w)) a xs) : h.DictOfH (tupleKind (intKind prog' w')) a xs := by
  obtain ⟨o, es, ep, g, c, d, e, i, nd⟩ := x
  refine ⟨o, es, ep, g, c, d, e, fun y hy => ?_, nd⟩
  obtain ⟨o', items, n', g', c', d', i'⟩ := i y hy
  exact ⟨o', items, n', g', c', d', items_conv i'⟩
theorem items_of {prog : Program} {w : World} : ∀ {h : Heap} {M : Addr → Prop} {vs : List Value} {ds : List D} {ns : List Int}, RelAll h M vs ds → intsOf ds = some ns → ItemsAre (intKind prog w) ns vs
  | _, _, _, _, _, .nil, e => by cases e; exact .nil
  | _, _, _, _, _, .cons x r, e => by
    cases x with
    | int i t =>
      obtain ⟨ns, e1, e2⟩ := bind1_some e
      cases e2
      exact .cons (show Value.isInt i (.int i t) = true by simp [Value.isInt]) (items_of r e1)
    | _ => cases e
theorem atKey_has {xs : List (List Int × Addr × Value)} {k : List Int} : (atKey xs k).isSome = (xs.map (·.1)).any fun y => decide (y = k) := by
  induction xs with
  | nil => rfl
  | cons x xs ih =>
    by_cases h : x.1 = k
    · simp [atKey, h]
    · simp only [List.map_cons, List.any_cons, h, decide_false, Bool.false_or]
      rw [← ih]
      simp [atKey, h]
noncomputable def keyOf : D → Option (List Int)
  | .tuple ds => intsOf ds
  | _ => none
noncomputable def eqKey (x : List Int) : List Int → Bool :=
  List.rec (motive := fun _ => List Int → Bool) (fun y => List.rec (motive := fun _ => Bool) true (fun _ _ _ => false) y)
    (fun a _ ih y => List.rec (motive := fun _ => Bool) false (fun b q _ => Bool.rec (motive := fun _ => Bool) false (ih q) (ieq a b)) y) x
theorem eqKey_eq : ∀ (a b : List Int), eqKey a b = decide (a = b)
  | [], [] => rfl
  | x :: r, y :: q => by
    show @Bool.rec (fun _ => Bool) false (eqKey r q) (ieq x y) = _
    rw [ieq_eq, eqKey_eq r q]
    by_cases h1 : x = y <;> by_cases h2 : r = q <;> simp [h1, h2]
  | [], _ :: _ => (decide_eq_false (by simp)).symm
  | _ :: _, [] => (decide_eq_false (by simp)).symm
noncomputable def hasKey (ks : List (List Int)) (k : List Int) : Bool := List.rec (motive := fun _ => Bool) false (fun y _ ih => Bool.rec (motive := fun _ => Bool) ih true (eqKey y k)) ks
theorem hasKey_eq (ks : List (List Int)) (k : List Int) : hasKey ks k = ks.any fun y => decide (y = k) := by
  induction ks with
  | nil => rfl
  | cons y r ih =>
    show @Bool.rec (fun _ => Bool) (hasKey r k) true (eqKey y k) = _
    rw [eqKey_eq, List.any_cons, ih]
    cases decide (y = k) <;> rfl

section
variable {W : Gl} {n : Nat} {Γ : Lay} {G : List Str}

noncomputable def edct (i : Nat) (ρ : List S) : Option (List (List Int)) := match sget ρ i with
  | .own (.dct ks) => some ks
  | _ => none
theorem edct_some {i : Nat} {ρ : List S} {d : List (List Int)} (h : edct i ρ = some d) : sget ρ i = .own (.dct d) := by
  unfold edct at h
  split at h
  · rename_i e; rw [e]; cases h; rfl
  · cases h
theorem dctName {A : Around} {env : Env} {s : Shared} {M : Addr → Prop} {ρ : List S} {oa : Nat → Addr} {Q : Value → Shared → Prop} {E : Value → Shared → Prop} (P : Pre W n Γ G A env s M ρ oa) (i : Nat) {x : Str} {k : VK} {p : Pos} {ks : List (List Int)}
    (hx : Γ[i]? = some (x, k)) (hk : k ≠ .no) (e : edct i ρ = some ks) (q : M (oa i) → DctIs s.heap M (oa i) ks → Q (.ref (oa i)) s) : wpAny (model W.prog W.w) A (eval (.Name x p) env) Q E s := by
  have e' := edct_some e
  refine wpAny_Name (loadSlot P i hx hk (fun v h => ?_) fun ov h => ?_) (P.es.nd i x k hx)
  · rw [e'] at h
    obtain ⟨hu, m, o⟩ := h
    cases hu
    exact q m o
  · rw [e'] at h
    exact ⟨_, h.1⟩
theorem DenIts.consD {es : List Expr} {fs : List S → Option (List It)} {pos' : Pos} (hbig : ∃ b, 1 < b ∧ W.h₀.get? b ≠ none) (hb : DenIts W n Γ G es fs) :
    DenIts W n Γ G (.Dict [] [] pos' :: es) (fun ρ => bind1 (fun its => some (.f (.dct []) :: its)) (fs ρ)) := fun A env s M ρ oa its Q E pos P e q => by
  obtain ⟨its, e2, e3⟩ := bind1_some e
  cases e3
  refine wpAny_items_cons (wpAny_Dict_empty ?_) rfl
  have ea := get_size s.heap
  have k1 : Keep s.heap (s.heap.push { cls := .type "dict", data := .dict #[] }) := Keep.push _ _
  have ga := Heap.get?_push_size s.heap (o := { cls := .type "dict", data := .dict #[] }) rfl
  refine hb A env { s with heap := s.heap.push { cls := .type "dict", data := .dict #[] } } (fun b => b = s.heap.objs.size ∨ M b) ρ oa its _ E pos (P.grow k1 (fun _ m => .inr m) fun b m => m.elim (fun x => .inr (x ▸ ⟨ea, dom_some ga⟩)) .inl) e2 fun vs h2 tk2 N k2 sub new p dis => ?_
  have na := sub s.heap.objs.size (.inl rfl)
  have hz : (s.heap.objs.size == sysModules) = false := by
    obtain ⟨b, h1, h2⟩ := hbig
    cases g : W.h₀.get? b with
    | none => exact absurd g h2
    | some o =>
      have := Heap.lt_size (P.base _ _ g)
      rw [beq_eq_false_iff_ne]
      intro e
      rw [e] at this
      exact absurd (Nat.lt_trans h1 (show b < 1 from this)) (Nat.lt_irrefl 1)
  have di : OwnIs h2 N s.heap.objs.size (.dct []) := by
    refine ⟨hz, [], ⟨_, _, _, k2 _ _ ga, rfl⟩, fun prog w => ?_, fun x hx => by (cases hx), rfl⟩
    exact ⟨_, #[], 0, k2 _ _ ga, ⟨rfl, rfl, rfl⟩, rfl, rfl, fun _ hx => by (cases hx), List.nodup_nil⟩
  refine q _ h2 tk2 N (k1.trans k2) (fun b m => sub b (.inr m)) (fun b m => ?_) (.f ea na di (p.back k1)) (List.pairwise_cons.mpr ⟨fun u hu b n e => ?_, dis⟩)
  · rcases new b m with (rfl | h) | h
    · exact .inr ⟨ea, dom_some (k2 _ _ ga)⟩
    · exact .inl h
    · exact .inr ⟨Gos.back k1 h.1, h.2⟩
  · cases e
    exact p.notin na (dom_some ga) u hu

noncomputable def notIn (i : Nat) (ρ : List S) (d : Option D) : Option Bool := match edct i ρ, d with
  | some ks, some d => (match keyOf d with | some k => some (!hasKey ks k) | none => none)
  | _, _ => none
theorem keyAt {h : Heap} {M : Addr → Prop} {v : Value} {d : D} {k : List Int} (r : Rel h M v d) (e : keyOf d = some k) : ∃ a vs c, v = .ref a ∧ ¬ M a ∧ h.get? a = some (tupO vs c) ∧ ∀ prog w, IsTupleKey (intKind prog w) h k a := by
  cases r with
  | tup m g rr => exact ⟨_, _, _, rfl, m, g, fun prog w => ⟨_, _, _, g, rfl, rfl, by simpa using items_of rr e⟩⟩
  | _ => cases e
theorem DenT.notInD (i : Nat) {x : Str} {kd : VK} {p pos : Pos} {e : Expr} {f : List S → Option D} (ha : DenE W n Γ G e f) (hx : Γ[i]? = some (x, kd) := by rfl) (hk : kd ≠ .no := by decide)
    (hm : behindInMarks .NotIn (.Name x p) = false := by with_unfolding_all rfl) :
    DenT W n Γ G (.Compare e [.NotIn] [.Name x p] pos) (fun ρ => notIn i ρ (f ρ)) := fun A env s M ρ oa b Q E P e' q => by
  have e' : notIn i ρ (f ρ) = some b := e'
  unfold notIn at e'
  split at e'
  · rename_i ks d h1 h2
    split at e'
    · rename_i k hkey
      cases e'
      refine wpAny_isTrue_Compare1 (ha A env s M ρ oa d _ E P h2 fun v hv tkv kv rv => ?_) hm
      refine dctName (P.up kv) i hx hk h1 fun m di => ?_
      obtain ⟨a, vs, c, rfl, ma, ga, ik⟩ := keyAt rv hkey
      obtain ⟨hz, xs, _, hd, hn, hks⟩ := di
      refine wpAny_notIn_heap (knd := tupleKind (intKind W.prog W.w)) (tupleKind_room_in1 (by have := P.ok.un; show _ < 9900; omega)) (ik _ _) hz (hd _ _) (wpAny_truthy_bool ?_)
      rw [atKey_has, hks, ← hasKey_eq]
      exact q hv _ kv
    · cases e'
  · cases e'

noncomputable def setD (i : Nat) (ρ : List S) (d : Option D) (v : Option D) : Option Fl := match edct i ρ, d, v with
  | some ks, some d, some (.bool true) => (match keyOf d with | some k => if !hasKey ks k && small ks then some (.next (sset ρ i (.own (.dct (snoc ks k))))) else none | none => none)
  | _, _, _ => none
theorem DenO.setDict (i : Nat) {x : Str} {kd : VK} {p sp pos : Pos} {e ei : Expr} {f fi : List S → Option D} (ha : DenE W n Γ G e f) (hi : DenE W n Γ G ei fi) (hx : Γ[i]? = some (x, kd) := by rfl) (hk : kd ≠ .no := by decide)
    (hs : ∀ env, EnvS Γ G env → swapsWith e (some (.Subscript (.Name x p) ei sp)) pos.line env = pure false := by intro _ _; rfl) : DenO W n Γ G (.Assign [.Subscript (.Name x p) ei sp] e pos) (fun ρ => setD i ρ (fi ρ) (f ρ)) := fun A env s hb M₀ M ρ oa fl Q E cx t e q => by
  have e : setD i ρ (fi ρ) (f ρ) = some fl := e
  unfold setD at e
  simp only [snoc_eq] at e
  split at e
  · rename_i ks d h1 h2 h3
    split at e
    · rename_i k hkey
      split at e
      · rename_i hc
        cases e
        have hc := Bool.and_eq_true_iff.mp hc
        have P := cx.pre t
        refine wpAny_Assign_Subscript (ha A env s M ρ oa _ _ E P h3 fun v hv tkv kv rv => ?_) (hs env cx.es)
        have P1 := P.up (tk := tkv) kv
        refine dctName P1 i hx hk h1 fun m di => ?_
        refine hi A env _ M ρ oa d _ E P1 h2 fun u hu tku ku ru => ?_
        have k2 := kv.trans ku
        have di2 : DctIs hu M (oa i) ks := di.to (Trees.keep ku) fun o g => ku _ _ g
        obtain ⟨a, vs, c, rfl, ma, ga, ik⟩ := keyAt ru hkey
        obtain ⟨hz, xs, ⟨o0, es0, ep0, g0, d0⟩, hd, hn, hks⟩ := id di2
        have hlen : xs.length = ks.length := by rw [← hks, List.length_map]
        have hno : atKey xs k = none := by
          have h4 : (atKey xs k).isSome = false := by
            rw [atKey_has, hks, ← hasKey_eq]
            simpa using hc.1
          cases hq : atKey xs k with
          | none => rfl
          | some p => rw [hq] at h4; cases h4
        refine wpAny_setItem_heap (knd := tupleKind (intKind W.prog W.w)) (s := { s with heap := hu, toks := tku }) (tupleKind_room_in1 (by have := cx.ok.un; show _ < 9900; omega)) (ik _ _) (hd _ _) (fun h' hm' hs' => ?_) (by rw [hlen]; exact small_le hc.2)
        rw [storedH_new hno] at hm'
        have st : Step M hu M h' := Step.same m hs'
        have hne : ∀ b o, b ≠ oa i → hu.get? b = some o → h'.get? b = some o := fun b o nb g => (hs'.2 b nb).trans g
        refine q h' _ M oa ((Step.of_keep k2).trans st) ((t.keep k2).setOwnX (eown' h1) (di2 : OwnIs hu M (oa i) (.dct ks)) hne ?_)
        refine ⟨hz, xs ++ [(k, a, v)], ?_, fun prog w => dictOf_conv hm', fun y hy => ?_, by rw [List.map_append, hks]; rfl⟩
        · obtain ⟨o', es', ep', g', _, d', _⟩ := hm'
          exact ⟨o', es', ep', g', d'⟩
        · rcases List.mem_append.mp hy with hy | hy
          · obtain ⟨my, vsy, cy, gy⟩ := hn y hy
            exact ⟨my, vsy, cy, hne _ _ (fun e => my (e ▸ m)) gy⟩
          · rw [List.mem_singleton] at hy
            subst hy
            exact ⟨ma, vs, c, hne _ _ (fun e => ma (by have e : a = oa i := e; rw [e]; exact m)) ga⟩
      · cases e
    · cases e
  · cases e
where eown' {i : Nat} {ρ : List S} {ks : List (List Int)} (h : edct i ρ = some ks) : sget ρ i = .own (.dct ks) := edct_some h
end
end Gos
end

section
open PySem PySem.W PyProof.Rows
namespace Gos
open PySem
section
variable {W : Gl} {n : Nat} {Γ : Lay} {G : List Str}
/-- a try whose body does not raise -/
theorem DenO.tryN {body : List Stmt} {h₀ : ExceptHandler} {hs : List ExceptHandler} {pos : Pos} {gb : List S → Option Fl} (hb : DenS W n Γ G body gb) : DenO W n Γ G (.Try body (h₀ :: hs) [] [] pos) gb := fun A env s hb' M₀ M ρ oa fl Q E cx t e q => by
  refine wpAny_Try_except (hb A env s hb' M₀ M ρ oa fl _ _ cx t e ?_)
  cases fl with
  | next ρ' => exact fun h' tk M' oa' st t' => wpAny_execs_nil (q h' tk M' oa' st t')
  | cont ρ' => exact q
  | ret d => exact q
  | retF ds => exact q
theorem DenT.or3 {x y z : Expr} {fx fy fz : List S → Option Bool} {pos} (hx : DenT W n Γ G x fx) (hy : DenT W n Γ G y fy) (hz : DenT W n Γ G z fz) : DenT W n Γ G (.BoolOp .Or [x, y, z] pos) (fun ρ => ite1 (fx ρ) (some true) (ite1 (fy ρ) (some true) (fz ρ))) := fun A env s M ρ oa d Q E P e q => by
  refine wpAny_isTrue_BoolOp ?_
  cases hf : fx ρ with
  | none => simp [hf, ite1] at e
  | some c =>
    refine wpAny_allTrue_Or_cons (hx A env s M ρ oa c _ E P hf fun h1 tk1 k1 => ?_)
    cases c with
    | true => simp only [hf, ite1, Option.some.injEq] at e; subst e; exact q h1 tk1 k1
    | false =>
      have e : ite1 (fy ρ) (some true) (fz ρ) = some d := by simpa [hf, ite1] using e
      cases hg : fy ρ with
      | none => simp [hg, ite1] at e
      | some c =>
        refine wpAny_allTrue_Or_cons (hy A env _ M ρ oa c _ E (P.up k1) hg fun h2 tk2 k2 => ?_)
        cases c with
        | true => simp only [hg, ite1, Option.some.injEq] at e; subst e; exact q h2 tk2 (k1.trans k2)
        | false =>
          refine wpAny_allTrue_Or_cons (hz A env _ M ρ oa d _ E ((P.up (tk := tk1) k1).up (tk := tk2) k2) (by simpa [hg, ite1] using e) fun h3 tk3 k3 => ?_)
          cases d with
          | true => exact q h3 tk3 ((k1.trans k2).trans k3)
          | false => exact wpAny_allTrue_Or_nil (q h3 tk3 ((k1.trans k2).trans k3))
end
end Gos
end

section
open PySem PySem.W PyProof.Rows
namespace Gos
open PySem

/- a small evaluator of the model's trees: nothing but ints are compared -/
noncomputable def ltCall : Code → Option Bool
  | .call (.builtin id) ⟨[.int i _, .int j _], []⟩ => if id = "int.__lt__" then some (ilt i j) else none
  | _ => none
noncomputable def ev {α : Type} (τ : Setting) : Sem α → Option α
  | .pure a => some a
  | .rule _ k => ev τ (k ())
  | .at _ k => ev τ (k ())
  | .ask k => ev τ (k τ)
  | .call c none _ _ k => (match ltCall c with | some b => ev τ (k (.ok (.ret (.bool b)))) | none => none)
  | _ => none
noncomputable def tau (b : Bool) (τ : Setting) : Setting := ⟨τ.program, { τ.params with followText := fun row => if row = "special-get-raises" then b else τ.params.followText row }⟩
theorem tau_eq (τ : Setting) : tau (τ.params.followText "special-get-raises") τ = τ := by
  unfold tau
  have : (fun row => if row = "special-get-raises" then τ.params.followText "special-get-raises" else τ.params.followText row) = τ.params.followText := by
    funext row
    split
    · rename_i e; rw [e]
    · rfl
  rw [this]

theorem ltCall_some {c : Code} {b : Bool} (h : ltCall c = some b) : ∃ i t j u, c = .call (.builtin "int.__lt__") ⟨[.int i t, .int j u], []⟩ ∧ b = decide (i < j) := by
  unfold ltCall at h
  split at h
  · rename_i id i t j u
    split at h
    · rename_i e
      subst e
      cases h
      exact ⟨i, t, j, u, rfl, ilt_eq i j⟩
    · cases h
  · cases h
theorem ev_wp {α : Type} {prog : Program} {w : World} {A : Around} {E : Value → Shared → Prop} {s : Shared} {m : Sem α} {a : α} {Q : α → Shared → Prop} (h : ev ⟨prog, w.params⟩ m = some a) (q : Q a s) : wpAny (model prog w) A m Q E s := by
  induction m with
  | pure b => cases h; exact wpAny_pure q
  | rule t k ih => exact wpAny_bind (m := rule t) (f := k) (wpAny_rule (ih () h))
  | «at» p k ih => exact wpAny_bind (m := standAt p) (f := k) (wpAny_standAt (ih () h))
  | ask k ih => exact wpAny_bind (m := ask) (f := k) (wpAny_askSetting (ih _ h))
  | call c hd g l k ih =>
    cases hd with
    | some v => cases h
    | none =>
      unfold ev at h
      split at h
      · rename_i b hb
        obtain ⟨i, t, j, u, rfl, rfl⟩ := ltCall_some hb
        have key : codeAny (model prog w) (A.mark none) (.call (.builtin "int.__lt__") ⟨[.int i t, .int j u], []⟩) (fun r s' => wpAny (model prog w) A (k r) Q E s') s := by
          refine codeAny_call_builtin slot_int_lt.plain entry_int_lt (slot_int_lt.check _ _ _ _ _ _ _ _ (typeIs_int s i t) (args_int_lt _ _) ?_)
          show wpAny _ _ (ret (.bool (decide (i < j)))) _ _ s
          exact wpAny_pure (ih _ h)
        intro Γ p hΓ
        rw [Sem.wp_call]
        refine wpCode_mono (fun r s' hr => hr Γ p hΓ) (key _ p rfl (hΓ.enter _ none p (by intro x; cases x)))
      · cases h
  | _ => cases h

/- the one long list that is sorted: the divisors of 25030008 -/
noncomputable def big96 : List Int := [1, 139, 61, 8479, 41, 5699, 2501, 347639, 3, 417, 183, 25437, 123, 17097, 7503, 1042917, 9, 1251, 549, 76311, 369, 51291, 22509, 3128751, 2, 278, 122, 16958, 82, 11398, 5002, 695278, 6, 834, 366, 50874, 246, 34194, 15006, 2085834, 18, 2502, 1098, 152622, 738, 102582, 45018, 6257502, 4, 556, 244, 33916, 164, 22796, 10004, 1390556, 12, 1668, 732, 101748, 492, 68388, 30012, 4171668, 36, 5004, 2196, 305244, 1476, 205164, 90036, 12515004, 8, 1112, 488, 67832, 328, 45592, 20008, 2781112, 24, 3336, 1464, 203496, 984, 136776, 60024, 8343336, 72, 10008, 4392, 610488, 2952, 410328, 180072, 25030008]
noncomputable def srt96 : List Int := [1, 2, 3, 4, 6, 8, 9, 12, 18, 24, 36, 41, 61, 72, 82, 122, 123, 139, 164, 183, 244, 246, 278, 328, 366, 369, 417, 488, 492, 549, 556, 732, 738, 834, 984, 1098, 1112, 1251, 1464, 1476, 1668, 2196, 2501, 2502, 2952, 3336, 4392, 5002, 5004, 5699, 7503, 8479, 10004, 10008, 11398, 15006, 16958, 17097, 20008, 22509, 22796, 25437, 30012, 33916, 34194, 45018, 45592, 50874, 51291, 60024, 67832, 68388, 76311, 90036, 101748, 102582, 136776, 152622, 180072, 203496, 205164, 305244, 347639, 410328, 610488, 695278, 1042917, 1390556, 2085834, 2781112, 3128751, 4171668, 6257502, 8343336, 12515004, 25030008]
noncomputable def mkV (f : Nat → Tok) : List Int → Nat → List Value
  | [], _ => []
  | n :: r, k => .int n (f k) :: mkV f r (k + 1)
noncomputable def isInts : List Value → List Int → Bool
  | [], [] => true
  | .int i _ :: vs, n :: ns => ieq i n && isInts vs ns
  | _, _ => false
theorem isInts_are : ∀ {vs : List Value} {ns : List Int}, isInts vs ns = true → IntsAre vs ns
  | [], [], _ => .nil
  | .int i t :: vs, n :: ns, h => by
    have h := Bool.and_eq_true_iff.mp h
    rw [ieq_eq] at h
    obtain rfl := of_decide_eq_true h.1
    exact .cons i t (isInts_are h.2)
  | [], _ :: _, h => by cases h
  | v :: vs, [], h => by cases v <;> cases h
  | .none :: _, _ :: _, h => by cases h
  | .bool _ :: _, _ :: _, h => by cases h
  | .str _ _ :: _, _ :: _, h => by cases h
  | .ref _ :: _, _ :: _, h => by cases h
  | .float _ _ :: _, _ :: _, h => by cases h
  | .bytes _ _ :: _, _ :: _, h => by cases h
  | .type _ :: _, _ :: _, h => by cases h
  | .builtin _ :: _, _ :: _, h => by cases h
  | .ellipsis :: _, _ :: _, h => by cases h
  | .notImplemented :: _, _ :: _, h => by cases h
theorem mkV_congr {f g : Nat → Tok} : ∀ {ns : List Int} {k : Nat}, (∀ j, k ≤ j → f j = g j) → mkV f ns k = mkV g ns k
  | [], _, _ => rfl
  | n :: r, k, h => by
    unfold mkV
    rw [h k (Nat.le_refl _), mkV_congr fun j hj => h j (Nat.le_of_succ_le hj)]
theorem mkV_of : ∀ {vs : List Value} {ns : List Int}, IntsAre vs ns → ∀ k, ∃ f, vs = mkV f ns k
  | _, _, .nil, k => ⟨fun _ => 0, rfl⟩
  | _, _, .cons n t r, k => by
    obtain ⟨f, e⟩ := mkV_of r (k + 1)
    refine ⟨fun j => if j = k then t else f j, ?_⟩
    unfold mkV
    simp only [if_true]
    rw [mkV_congr (g := f) fun j hj => if_neg (by omega), ← e]
end Gos
end

section
open PySem PySem.W PyProof.Rows
namespace Gos
open PySem
noncomputable def l0 : List (Int × Nat) := [(1, 0), (139, 1), (61, 2), (8479, 3), (41, 4), (5699, 5), (2501, 6), (347639, 7), (3, 8), (417, 9), (183, 10), (25437, 11), (123, 12), (17097, 13), (7503, 14), (1042917, 15), (9, 16), (1251, 17), (549, 18), (76311, 19), (369, 20), (51291, 21), (22509, 22), (3128751, 23), (2, 24), (278, 25), (122, 26), (16958, 27), (82, 28), (11398, 29), (5002, 30), (695278, 31), (6, 32), (834, 33), (366, 34), (50874, 35), (246, 36), (34194, 37), (15006, 38), (2085834, 39), (18, 40), (2502, 41), (1098, 42), (152622, 43), (738, 44), (102582, 45), (45018, 46), (6257502, 47), (4, 48), (556, 49), (244, 50), (33916, 51), (164, 52), (22796, 53), (10004, 54), (1390556, 55), (12, 56), (1668, 57), (732, 58), (101748, 59), (492, 60), (68388, 61), (30012, 62), (4171668, 63), (36, 64), (5004, 65), (2196, 66), (305244, 67), (1476, 68), (205164, 69), (90036, 70), (12515004, 71), (8, 72), (1112, 73), (488, 74), (67832, 75), (328, 76), (45592, 77), (20008, 78), (2781112, 79), (24, 80), (3336, 81), (1464, 82), (203496, 83), (984, 84), (136776, 85), (60024, 86), (8343336, 87), (72, 88), (10008, 89), (4392, 90), (610488, 91), (2952, 92), (410328, 93), (180072, 94), (25030008, 95)]
noncomputable def lA : List (Int × Nat) := [(1, 0), (2, 24), (3, 8), (6, 32), (9, 16), (18, 40), (41, 4), (61, 2), (82, 28), (122, 26), (123, 12), (139, 1), (183, 10), (246, 36), (278, 25), (366, 34), (369, 20), (417, 9), (549, 18), (738, 44), (834, 33), (1098, 42), (1251, 17), (2501, 6), (2502, 41), (5002, 30), (5699, 5), (7503, 14), (8479, 3), (11398, 29), (15006, 38), (16958, 27), (17097, 13), (22509, 22), (25437, 11), (34194, 37), (45018, 46), (50874, 35), (51291, 21), (76311, 19), (102582, 45), (152622, 43), (347639, 7), (695278, 31), (1042917, 15), (2085834, 39), (3128751, 23), (6257502, 47), (4, 48), (556, 49), (244, 50), (33916, 51), (164, 52), (22796, 53), (10004, 54), (1390556, 55), (12, 56), (1668, 57), (732, 58), (101748, 59), (492, 60), (68388, 61), (30012, 62), (4171668, 63), (36, 64), (5004, 65), (2196, 66), (305244, 67), (1476, 68), (205164, 69), (90036, 70), (12515004, 71), (8, 72), (1112, 73), (488, 74), (67832, 75), (328, 76), (45592, 77), (20008, 78), (2781112, 79), (24, 80), (3336, 81), (1464, 82), (203496, 83), (984, 84), (136776, 85), (60024, 86), (8343336, 87), (72, 88), (10008, 89), (4392, 90), (610488, 91), (2952, 92), (410328, 93), (180072, 94), (25030008, 95)]
noncomputable def lB : List (Int × Nat) := [(1, 0), (2, 24), (3, 8), (6, 32), (9, 16), (18, 40), (41, 4), (61, 2), (82, 28), (122, 26), (123, 12), (139, 1), (183, 10), (246, 36), (278, 25), (366, 34), (369, 20), (417, 9), (549, 18), (738, 44), (834, 33), (1098, 42), (1251, 17), (2501, 6), (2502, 41), (5002, 30), (5699, 5), (7503, 14), (8479, 3), (11398, 29), (15006, 38), (16958, 27), (17097, 13), (22509, 22), (25437, 11), (34194, 37), (45018, 46), (50874, 35), (51291, 21), (76311, 19), (102582, 45), (152622, 43), (347639, 7), (695278, 31), (1042917, 15), (2085834, 39), (3128751, 23), (6257502, 47), (4, 48), (8, 72), (12, 56), (24, 80), (36, 64), (72, 88), (164, 52), (244, 50), (328, 76), (488, 74), (492, 60), (556, 49), (732, 58), (984, 84), (1112, 73), (1464, 82), (1476, 68), (1668, 57), (2196, 66), (2952, 92), (3336, 81), (4392, 90), (5004, 65), (10004, 54), (10008, 89), (20008, 78), (22796, 53), (30012, 62), (33916, 51), (45592, 77), (60024, 86), (67832, 75), (68388, 61), (90036, 70), (101748, 59), (136776, 85), (180072, 94), (203496, 83), (205164, 69), (305244, 67), (410328, 93), (610488, 91), (1390556, 55), (2781112, 79), (4171668, 63), (8343336, 87), (12515004, 71), (25030008, 95)]
noncomputable def lC : List (Int × Nat) := [(1, 0), (2, 24), (3, 8), (4, 48), (6, 32), (8, 72), (9, 16), (12, 56), (18, 40), (24, 80), (36, 64), (41, 4), (61, 2), (72, 88), (82, 28), (122, 26), (123, 12), (139, 1), (164, 52), (183, 10), (244, 50), (246, 36), (278, 25), (328, 76), (366, 34), (369, 20), (417, 9), (488, 74), (492, 60), (549, 18), (556, 49), (732, 58), (738, 44), (834, 33), (984, 84), (1098, 42), (1112, 73), (1251, 17), (1464, 82), (1476, 68), (1668, 57), (2196, 66), (2501, 6), (2502, 41), (2952, 92), (3336, 81), (4392, 90), (5002, 30), (5004, 65), (5699, 5), (7503, 14), (8479, 3), (10004, 54), (10008, 89), (11398, 29), (15006, 38), (16958, 27), (17097, 13), (20008, 78), (22509, 22), (22796, 53), (25437, 11), (30012, 62), (33916, 51), (34194, 37), (45018, 46), (45592, 77), (50874, 35), (51291, 21), (60024, 86), (67832, 75), (68388, 61), (76311, 19), (90036, 70), (101748, 59), (102582, 45), (136776, 85), (152622, 43), (180072, 94), (203496, 83), (205164, 69), (305244, 67), (347639, 7), (410328, 93), (610488, 91), (695278, 31), (1042917, 15), (1390556, 55), (2085834, 39), (2781112, 79), (3128751, 23), (4171668, 63), (6257502, 47), (8343336, 87), (12515004, 71), (25030008, 95)]
noncomputable def mkK (f : Nat → Tok) : List (Int × Nat) → List Keyed
  | [] => []
  | (n, k) :: r => (.int n (f k), .int n (f k)) :: mkK f r
noncomputable def stK (l : List (Int × Nat)) (p : Array (Nat × Nat × Nat)) (f : Nat → Tok) : SortSt := SortSt.mk' oneType' (mkK f l).toArray p 7 none

/- the element at src goes down by d places, in one pass -/
noncomputable def rotF (xs : Array Keyed) (src d : Nat) : Array Keyed :=
  match xs.toList[src]? with
  | some x => ((xs.toList.eraseIdx src).insertIdx (src - d) x).toArray
  | none => xs
theorem bubble_rot {xs : Array Keyed} {src d : Nat} (hs : src < xs.size) (hd : d ≤ src) : bubble xs src d = rotF xs src d := by
  have hl : src < xs.toList.length := by rw [Array.length_toList]; exact hs
  have e1 : xs.toList[src]? = some xs.toList[src] := List.getElem?_eq_getElem hl
  have hle : src - d ≤ (xs.toList.eraseIdx src).length := by
    rw [List.length_eraseIdx_of_lt hl]
    exact Nat.le_trans (Nat.sub_le _ _) (Nat.le_sub_one_of_lt hl)
  unfold rotF
  rw [e1]
  apply Array.ext_getElem?
  intro k
  rw [getElem?_bubble hs d hd k]
  dsimp only
  have e2 : ∀ l : List Keyed, l.toArray[k]? = l[k]? := fun l => by simp
  rw [e2 ((xs.toList.eraseIdx src).insertIdx (src - d) xs.toList[src]), List.getElem?_insertIdx, List.getElem?_eraseIdx, List.getElem?_eraseIdx]
  simp only [← Array.getElem?_toList]
  rcases Nat.lt_trichotomy k (src - d) with h | h | h
  · rw [if_neg (Nat.ne_of_lt h), if_neg (fun c => Nat.lt_asymm h c.1), if_pos h, if_pos (Nat.lt_of_lt_of_le h (Nat.sub_le _ _))]
  · rw [h, if_pos rfl, if_neg (Nat.lt_irrefl _), if_pos rfl, if_pos hle, e1]
  · rw [if_neg (Nat.ne_of_gt h), if_neg (Nat.lt_asymm h), if_neg (Nat.ne_of_gt h)]
    have h1 : k - 1 + 1 = k := Nat.sub_add_cancel (Nat.lt_of_le_of_lt (Nat.zero_le _) h)
    rw [h1]
    by_cases h3 : k ≤ src
    · rw [if_pos ⟨h, h3⟩, if_pos (show k - 1 < src from Nat.lt_of_lt_of_le (h1 ▸ Nat.lt_succ_self (k - 1)) h3)]
    · rw [if_neg (fun c => h3 c.2), if_neg (fun c : k - 1 < src => h3 (h1 ▸ c))]
/- where the element is laid -/
noncomputable def srch (P : Nat → Bool) : Nat → Nat → Nat → Nat
  | 0, l, _ => l
  | n + 1, l, r => if r ≤ l then l else if P ((l + r) / 2) then srch P n l ((l + r) / 2) else srch P n ((l + r) / 2 + 1) r
theorem srch_done {P : Nat → Bool} {l r : Nat} (h : r ≤ l) : ∀ n, srch P n l r = l
  | 0 => rfl
  | n + 1 => by unfold srch; rw [if_pos h]
theorem srch_le {P : Nat → Bool} {k : Nat} : ∀ {n l r : Nat}, l ≤ k → r ≤ k → srch P n l r ≤ k
  | 0, _, _, h, _ => h
  | n + 1, l, r, h, h' => by
    unfold srch
    split
    · exact h
    · split
      · exact srch_le h (by omega)
      · exact srch_le (by omega) h'
noncomputable def placeF (xs : Array Keyed) (lo k : Nat) : Nat := srch (fun m => ilt (K xs (lo + k)) (K xs (lo + m))) k 0 k
noncomputable def insF (lo : Nat) : Nat → Nat → Array Keyed → Array Keyed
  | 0, _, xs => xs
  | n + 1, k, xs => insF lo n (k + 1) (rotF xs (lo + k) (k - placeF xs lo k))
section
variable {prog : Program} {w : World} {A : Around} {E : Value → Shared → Prop} {s : Shared}
theorem wpS_ltF {st : SortSt} {i j : Nat} {Q : Option Bool → SortSt → Prop} (hk : kindOf st = oneType') (h0 : IntKeys (arrOf st)) (hi : i < (arrOf st).size) (hj : j < (arrOf st).size)
    (h : Q (some (ilt (K (arrOf st) i) (K (arrOf st) j))) st) : wpS (model prog w) A E s (ltAt' i j) Q st := by
  have el : ∀ i, i < (arrOf st).size → ∃ t p, (arrOf st)[i]? = some (.int (K (arrOf st) i) t, p) := fun i hi => by
    have e : (arrOf st)[i]? = some (arrOf st)[i] := getElem?_pos _ i hi
    obtain ⟨n, t, hn⟩ := h0 (arrOf st)[i] (by simp)
    have e2 : (arrOf st)[i] = (.int n t, (arrOf st)[i].2) := Prod.ext hn rfl
    refine ⟨t, (arrOf st)[i].2, ?_⟩
    unfold K
    rw [e, e2]
    rfl
  obtain ⟨t, p, e1⟩ := el i hi
  obtain ⟨u, q, e2⟩ := el j hj
  rw [ilt_eq] at h
  exact wpS_ltAt hk e1 e2 h
theorem mid_lt {l r : Nat} (h : ¬ l ≥ r) : (l + r) / 2 < r := by omega
theorem sub_one_off {k x : Nat} (h : x < k) : k - x = (k - (x + 1)) + 1 := by rw [Nat.sub_add_eq, Nat.sub_add_cancel (Nat.sub_pos_of_lt h)]
theorem off_off {lo k p : Nat} : lo + k - (lo + p) = k - p := Nat.add_sub_add_left lo k p
theorem max_one {ok : Nat} (h : 1 ≤ ok) : max ok 1 = ok := by omega
theorem zero_off {k : Nat} : k - max 0 k = 0 := by rw [Nat.max_eq_right (Nat.zero_le _), Nat.sub_self]
theorem wpS_insF {st : SortSt} {lo n ok : Nat} {Q : Bool → SortSt → Prop} (hk : kindOf st = oneType') (h0 : IntKeys (arrOf st)) (hn : lo + n ≤ (arrOf st).size) (h1 : 1 ≤ ok) (hok : ok ≤ n)
    (h : Q true (setArr st (insF lo (n - ok) ok (arrOf st)))) : wpS (model prog w) A E s (binarySort' lo n ok) Q st := by
  rw [binarySort'_eq]
  refine wpS_bind (wpS_mono (wpS_forRange (I := fun k c st' => c = (none, ()) ∧ ∃ xs, st' = setArr st xs ∧ IntKeys xs ∧ xs.size = (arrOf st).size ∧ insF lo (n - k) k xs = insF lo (n - ok) ok (arrOf st))
    (Q := fun c st' => c = (none, ()) ∧ st' = setArr st (insF lo (n - ok) ok (arrOf st))) ?step ?fin ?init) ?post)
  case post =>
    rintro c st' ⟨rfl, rfl⟩
    exact wpS_pure h
  case init =>
    rw [max_one h1]
    exact ⟨rfl, arrOf st, rfl, h0, rfl, rfl⟩
  case fin =>
    rintro c st' ⟨hc, xs, rfl, _, _, e⟩
    rw [max_one h1, Nat.max_eq_right hok, Nat.sub_self] at e
    exact ⟨hc, by rw [← e]; rfl⟩
  case step =>
    rintro k c st' hak hkn ⟨rfl, xs, rfl, hi, hs, e⟩
    have hk' : kindOf (setArr st xs) = oneType' := hk
    have hlk : lo + k < xs.size := Nat.lt_of_lt_of_le (Nat.add_lt_add_left hkn lo) (hs ▸ hn)
    refine wpS_bind (wpS_mono (wpS_forRange (I := fun x c st'' => st'' = setArr st xs ∧ ∃ l r, c = (none, l, r) ∧ l ≤ k ∧ r ≤ k ∧
        srch (fun m => ilt (K xs (lo + k)) (K xs (lo + m))) (k - x) l r = placeF xs lo k)
      (Q := fun c st'' => st'' = setArr st xs ∧ ∃ r, c = (none, placeF xs lo k, r)) ?istep ?ifin ?iinit) ?ipost)
    case iinit => exact ⟨rfl, 0, k, rfl, Nat.zero_le _, Nat.le_refl _, rfl⟩
    case ifin =>
      rintro c st'' ⟨rfl, l, r, rfl, _, _, hm⟩
      rw [zero_off] at hm
      exact ⟨rfl, r, by rw [← hm]; rfl⟩
    case istep =>
      rintro x c st'' _ hxk ⟨rfl, l, r, rfl, hl, hr, hm⟩
      dsimp only
      by_cases hge : l ≥ r
      · rw [if_pos hge]
        rw [srch_done hge] at hm
        exact wpS_pure ⟨rfl, r, by rw [← hm]⟩
      · rw [if_neg hge]
        rw [sub_one_off hxk] at hm
        unfold srch at hm
        rw [if_neg hge] at hm
        refine wpS_bind (wpS_ltF hk' hi hlk (Nat.lt_trans (Nat.add_lt_add_left (Nat.lt_of_lt_of_le (mid_lt hge) hr) lo) hlk) ?_)
        cases hb : ilt (K xs (lo + k)) (K xs (lo + (l + r) / 2)) with
        | true =>
          rw [hb] at hm
          exact wpS_pure ⟨rfl, l, (l + r) / 2, rfl, hl, Nat.le_trans (Nat.le_of_lt (mid_lt hge)) hr, hm⟩
        | false =>
          rw [hb] at hm
          exact wpS_pure ⟨rfl, (l + r) / 2 + 1, r, rfl, Nat.le_trans (mid_lt hge) hr, hr, hm⟩
    case ipost =>
      rintro c st'' ⟨rfl, r, rfl⟩
      show wpS _ _ _ _ (do moveDown' (lo + k) (lo + placeF xs lo k); pure (ForInStep.yield (none, ()))) _ _
      rw [moveDown'_eq]
      have hp : placeF xs lo k ≤ k := srch_le (Nat.zero_le _) (Nat.le_refl _)
      refine wpS_bind (wpS_modify (wpS_pure ⟨rfl, bubble xs (lo + k) (lo + k - (lo + placeF xs lo k)), rfl, fun p hp => hi p ((Array.perm_iff_toList_perm.mp (bubble_perm xs _ _)).mem_iff.mp hp), (bubble_size _ _ _).trans hs, ?_⟩))
      rw [sub_one_off hkn] at e
      have e : insF lo (n - (k + 1)) (k + 1) (rotF xs (lo + k) (k - placeF xs lo k)) = insF lo (n - ok) ok (arrOf st) := e
      rw [off_off, bubble_rot hlk (Nat.le_trans (Nat.sub_le _ _) (Nat.le_add_left k lo))]
      exact e
/- a piece of the run by the kernel: the answer and the state are told -/
theorem ev_wpS {α : Type} {m : StateT SortSt Sem α} {st : SortSt} {Q : α → SortSt → Prop} (a : α) (st' : SortSt) (h : ∀ τ b, ev (tau b τ) (m.run st) = some (a, st')) (q : Q a st') : wpS (model prog w) A E s m Q st := by
  have h1 := h ⟨prog, w.params⟩ (w.params.followText "special-get-raises")
  rw [show tau (w.params.followText "special-get-raises") ⟨prog, w.params⟩ = ⟨prog, w.params⟩ from tau_eq ⟨prog, w.params⟩] at h1
  exact ev_wp h1 ⟨rfl, q⟩
noncomputable def chkS {α : Type} (r : Option (α × SortSt)) : Bool := match r with
  | some (_, st) => (match failedOf st with
    | none => isInts ((arrOf st).map (·.2)).toList srt96
    | some _ => false)
  | none => false
theorem ev_chk {α : Type} {m : StateT SortSt Sem α} {st : SortSt} {Q : α → SortSt → Prop} (h : ∀ τ b, chkS (ev (tau b τ) (m.run st)) = true)
    (q : ∀ a st' out, IntsAre out srt96 → ((arrOf st').map (·.2)).toList = out → failedOf st' = none → Q a st') : wpS (model prog w) A E s m Q st := by
  have h1 := h ⟨prog, w.params⟩ (w.params.followText "special-get-raises")
  rw [show tau (w.params.followText "special-get-raises") ⟨prog, w.params⟩ = ⟨prog, w.params⟩ from tau_eq ⟨prog, w.params⟩] at h1
  unfold chkS at h1
  split at h1
  · rename_i u st he
    split at h1
    · rename_i hf
      exact ev_wp he ⟨rfl, q _ st _ (isInts_are h1) rfl hf⟩
    · cases h1
  · cases h1
theorem intKeys_mkK {f : Nat → Tok} : ∀ {l : List (Int × Nat)}, IntKeys (mkK f l).toArray
  | [], p, h => by cases h
  | (n, k) :: r, p, h => by
    rcases List.mem_cons.mp (show p ∈ _ :: mkK f r from h) with rfl | h
    · exact ⟨n, f k, rfl⟩
    · exact intKeys_mkK (l := r) p h
theorem zip96 (f : Nat → Tok) : (mkV f big96 0).toArray.zip (mkV f big96 0).toArray = (mkK f l0).toArray := by kernel_rfl
theorem insA (f : Nat → Tok) : insF 0 46 2 (mkK f l0).toArray = (mkK f lA).toArray := by kernel_rfl
theorem insB (f : Nat → Tok) : insF 48 46 2 (mkK f lA).toArray = (mkK f lB).toArray := by kernel_rfl
noncomputable def pA : Array (Nat × Nat × Nat) := #[(0, 48, 0)]
noncomputable def pB : Array (Nat × Nat × Nat) := #[(0, 48, 1), (48, 48, 0)]
theorem cnt0 (f : Nat → Tok) (τ : Setting) : ∀ b, ev (tau b τ) ((countRun' 0 96).run (stK l0 #[] f)) = some (some 2, stK l0 #[] f)
  | true => by kernel_rfl
  | false => by kernel_rfl
theorem cnt1 (f : Nat → Tok) (τ : Setting) : ∀ b, ev (tau b τ) ((countRun' 48 48).run (stK lA pA f)) = some (some 2, stK lA pA f)
  | true => by kernel_rfl
  | false => by kernel_rfl
theorem size_l0 (f : Nat → Tok) : (mkK f l0).toArray.size = 96 := by kernel_rfl
theorem runs96k {f : Nat → Tok} {Q : Unit → SortSt → Prop} (q : ∀ st' out, IntsAre out srt96 → ((arrOf st').map (·.2)).toList = out → failedOf st' = none → Q () st') :
    wpS (model prog w) A E s sortRuns' Q (stK l0 #[] f) := by
  rw [sortRuns'_eq]
  refine wpS_bind (wpS_get ?_)
  have hsz : (arrOf (stK l0 #[] f)).size = 96 := size_l0 f
  have hmr : minRun' 96 96 0 = 48 := by kernel_rfl
  rw [hsz]
  dsimp only
  simp only [hmr]
  refine wpS_bind (wpS_mono (wpS_forRange (I := fun x c st' => (x = 0 ∧ c = (none, 0) ∧ st' = stK l0 #[] f) ∨ (x = 1 ∧ c = (none, 48) ∧ st' = stK lA pA f) ∨ (2 ≤ x ∧ c = (none, 96) ∧ st' = stK lB pB f))
    (Q := fun c st' => c = (none, 96) ∧ st' = stK lB pB f) ?step ?fin (.inl ⟨rfl, rfl, rfl⟩)) ?post)
  case fin =>
    rintro c st' (⟨h, _⟩ | ⟨h, _⟩ | ⟨_, h⟩)
    · omega
    · omega
    · exact h
  case step =>
    rintro x c st' _ hx (⟨rfl, rfl, rfl⟩ | ⟨rfl, rfl, rfl⟩ | ⟨h2, rfl, rfl⟩)
    · dsimp only
      rw [if_neg (by omega)]
      refine wpS_bind (ev_wpS _ _ (cnt0 f) ?_)
      dsimp only
      rw [if_pos (by omega)]
      refine wpS_bind (wpS_lift (wpAny_rule ⟨rfl, ?_⟩))
      refine wpS_bind (wpS_insF (st := stK l0 #[] f) rfl intKeys_mkK (by rw [hsz]; decide) (by decide) (by decide) ?_)
      rw [show setArr (stK l0 #[] f) (insF 0 (min (96 - 0) 48 - 2) 2 (arrOf (stK l0 #[] f))) = stK lA #[] f from congrArg (fun a => SortSt.mk' oneType' a #[] 7 none) (insA f)]
      refine ev_wpS (ForInStep.yield (none, 48)) (stK lA pA f) (fun τ b => ?_) (.inr (.inl ⟨rfl, rfl, rfl⟩))
      cases b <;> kernel_rfl
    · dsimp only
      rw [if_neg (by omega)]
      refine wpS_bind (ev_wpS _ _ (cnt1 f) ?_)
      dsimp only
      rw [if_pos (by omega)]
      refine wpS_bind (wpS_lift (wpAny_rule ⟨rfl, ?_⟩))
      refine wpS_bind (wpS_insF (st := stK lA pA f) rfl intKeys_mkK (by show 96 ≤ (mkK f lA).toArray.size; rw [show (mkK f lA).toArray.size = 96 by kernel_rfl]; exact Nat.le_refl _) (by decide) (by decide) ?_)
      rw [show setArr (stK lA pA f) (insF 48 (min (96 - 48) 48 - 2) 2 (arrOf (stK lA pA f))) = stK lB pA f from congrArg (fun a => SortSt.mk' oneType' a pA 7 none) (insB f)]
      refine ev_wpS (ForInStep.yield (none, 96)) (stK lB pB f) (fun τ b => ?_) (.inr (.inr ⟨Nat.le_refl _, rfl, rfl⟩))
      cases b <;> kernel_rfl
    · dsimp only
      rw [if_pos (Nat.le_refl _)]
      exact wpS_pure ⟨rfl, rfl⟩
  case post =>
    rintro c st' ⟨rfl, rfl⟩
    dsimp only
    refine ev_chk (fun τ b => ?_) fun a st' out => q st' out
    cases b <;> kernel_rfl
theorem runs96 {vs : List Value} (hI : IntsAre vs big96) {Q : Unit → SortSt → Prop} (q : ∀ st' out, IntsAre out srt96 → ((arrOf st').map (·.2)).toList = out → failedOf st' = none → Q () st') :
    wpS (model prog w) A E s sortRuns' Q (SortSt.mk' oneType' (vs.toArray.zip vs.toArray) #[] 7 none) := by
  obtain ⟨f, rfl⟩ := mkV_of hI 0
  rw [zip96]
  exact runs96k q
end

section
variable {prog : Program} {w : World} {A : Around} {E : Value → Shared → Prop} {s : Shared}
theorem sort96_tree {a : Addr} {vs : List Value} {n : Nat} {P : Fin → Shared → Prop} (ho : s.heap.get? a = some (seqObj "list" vs.toArray n)) (hI : IntsAre vs big96)
    (h : ∀ (out : Array Value), IntsAre out.toList srt96 → P (.done (.ret .none)) { s with heap := sortedHeap s.heap a vs out }) :
    wpAny (model prog w) A (Builtin.«list.sort» ⟨[.ref a], []⟩) P E s := by
  have hlen : vs.length = 96 := hI.length.trans rfl
  have ha : a < s.heap.objs.size := Heap.lt_size ho
  rw [list_sort_plain]
  refine wpAny_bind (listItems_at ho rfl (wpAny_bind (listUpdate_at ho rfl ?_)))
  have ho1 := get?_update_seq ho (fun _ => #[])
  refine wpAny_bind (seqEpoch_at ho1 rfl (wpAny_bind (wpAny_newTuple (wpAny_bind (wpAny_newList (wpAny_holding ?_))))))
  have ho6 : (((s.heap.update a (Obj.mapSeq fun _ => #[])).push (seqObj "tuple" vs.toArray 0)).push (seqObj "list" #[] 0)).get? a = some (seqObj "list" #[] (if (#[] : Array Value).size == vs.toArray.size then n else n + 1)) :=
    Heap.get?_push_of_some _ (Heap.get?_push_of_some _ ho1)
  show wpAny (model prog w) A _ P E { s with heap := ((s.heap.update a (Obj.mapSeq fun _ => #[])).push (seqObj "tuple" vs.toArray 0)).push (seqObj "list" #[] 0) }
  have h2 : ¬ vs.toArray.size < 2 := by rw [List.size_toArray, hlen]; decide
  dsimp only
  rw [if_neg h2, if_neg h2]
  obtain ⟨v₁, v₂, rest, rfl⟩ : ∃ v₁ v₂ rest, vs = v₁ :: v₂ :: rest := by
    match vs, hlen with
    | v₁ :: v₂ :: rest, _ => exact ⟨v₁, v₂, rest, rfl⟩
  rw [keyKind_ints hI]
  refine wpAny_bind (wpAny_pure (wpAny_bind (wpAny_mono (runs96 hI (Q := fun _ st' => ∃ out, IntsAre out srt96 ∧ ((arrOf st').map (·.2)).toList = out ∧ failedOf st' = none) fun st' out a1 a2 a3 => ⟨out, a1, a2, a3⟩) ?_ fun _ _ e => e)))
  rintro ⟨⟨⟩, st'⟩ s' ⟨rfl, out, h1, h3, h4⟩
  dsimp only
  refine wpAny_bind (seqEpoch_at ho6 rfl (wpAny_bind (listUpdate_at ho6 rfl ?_ (hsz2 := ?_))))
  · rw [h4]
    simp only [bne_self_eq_false, Bool.false_eq_true, if_false]
    exact wpAny_pure (h _ (h3 ▸ h1))
  · have : ((arrOf st').map (·.2)).size = 96 := by rw [← Array.length_toList, h3, h1.length]; rfl
    show ((arrOf st').map (·.2)).size ≤ _
    rw [this, sizeLine_eq]; omega
theorem sorted96 {l : Addr} {vs : List Value} {Q : Value → Shared → Prop} (hl : s.heap.IsList l vs.toArray) (hI : IntsAre vs big96)
    (h : ∀ (out : Array Value), IntsAre out.toList srt96 → Q (.ref (s.heap.objs.size + 1)) { s with heap := sortedAll s.heap vs out }) : wpAny (model prog w) A (PySem.call (.builtin "sorted") [.ref l]) Q E s := by
  have hlen : vs.length = 96 := hI.length.trans rfl
  refine Calls.call_function_entry kind_sorted plain_sorted entry_sorted (args_sorted1 _) ?_
  unfold Builtin.«sorted»
  refine wpAny_bind (m := checkCount "sorted" 1 1 _) (wpAny_pure (wpAny_bind (collect_list hl ?_ (by rw [hlen, sizeLine_eq]; omega))))
  refine wpAny_bind (wpAny_newList ?_)
  generalize hH : (s.heap.push (seqObj "list" #[] 0)).update s.heap.objs.size (Obj.mapSeq (· ++ vs.toArray)) = H
  have hsz : H.objs.size = s.heap.objs.size + 1 := by rw [← hH, Heap.size_update, size_push']
  have hoL : (H.push (seqObj "list" vs.toArray 0)).get? (s.heap.objs.size + 1) = some (seqObj "list" vs.toArray 0) := by
    rw [← hsz]; exact Heap.get?_push_size _ rfl
  show wpAny _ _ _ _ _ { s with heap := H.push (seqObj "list" vs.toArray 0) }
  rw [hsz]
  refine wpAny_bind (wpAny_holding (wpAny_call_entry slot_list_sort ⟨_, hoL, rfl⟩ entry_list_sort (sort96_tree hoL hI fun out a1 => ⟨_, rfl, ?_⟩) (args_list_sort _)))
  refine wpAny_pure ⟨_, rfl, ?_⟩
  have := h out a1
  unfold sortedAll at this
  rwa [hH] at this
end
noncomputable def eqInts : List Int → List Int → Bool
  | [], [] => true
  | a :: r, b :: q => ieq a b && eqInts r q
  | _, _ => false
theorem eqInts_eq : ∀ {a b : List Int}, eqInts a b = true → a = b
  | [], [], _ => rfl
  | x :: r, y :: q, h => by
    have h := Bool.and_eq_true_iff.mp h
    rw [ieq_eq] at h
    rw [of_decide_eq_true h.1, eqInts_eq h.2]
  | [], _ :: _, h => by cases h
  | _ :: _, [], h => by cases h
/-- sorted, of few ints or of the one long list -/
noncomputable def fsorted2 : List D → Option (List D)
  | [.list xs] => if Nat.blt xs.length 64 then fsorted [.list xs] else bind1 (fun ns => if eqInts ns big96 then some (srt96.map .int) else none) (intsOf xs)
  | _ => none
theorem sem_sorted2 {W : Gl} : CallSemF W (.builtin "sorted") fsorted2 := fun A s M vs ds d Q E ok dom r e q => by
  unfold fsorted2 at e
  split at e
  · split at e
    · exact sem_sorted A s M vs _ d Q E ok dom r e q
    · obtain ⟨ns, e1, e2⟩ := bind1_some e
      split at e2
      · rename_i hn
        cases e2
        obtain rfl := eqInts_eq hn
        obtain ⟨v, rfl, x⟩ := r.one
        cases x with
        | lst m g rr =>
          rename_i ws k
          refine sorted96 (isList_of g) (intsOf_are rr e1) fun out a1 => ?_
          obtain ⟨ee, he⟩ := sortedAll_at s.heap ws out
          refine q _ out.toList ee _ s.toks (fun _ _ => sortedAll_old) ?_ (by simpa using he) (IntsAre.rel a1)
          cases q : s.heap.get? (s.heap.objs.size + 1) with
          | none => rfl
          | some o => exact absurd (Heap.lt_size q) (Nat.not_lt.mpr (Nat.le_succ _))
      · cases e2
  · cases e
end Gos
end

section
open PySem PySem.W PyProof.Rows
namespace Gos
open PySem
/-- a box -/
structure Bx (p : Prop) : Prop where
  h : p
section
variable {W : Gl} {n : Nat} {Γ : Lay} {G : List Str}
theorem BA.cons {e : Expr} {es : List Expr} {f : List S → Option D} {fs : List S → Option (List D)} (ha : Bx (DenE W n Γ G e f)) (hb : Bx (DenA W n Γ G es fs)) (hs : isStarred e = false := by rfl) : Bx (DenA W n Γ G (e :: es) (fun ρ => bind2 consD (f ρ) (fs ρ))) := ⟨DenA.cons (ha := ha.h) (hb := hb.h) (hs := hs)⟩
end
section
variable {W : Gl} {n : Nat} {Γ : Lay} {G : List Str}
theorem BA.nil  : Bx (DenA W n Γ G [] (fun _ => some [])) := ⟨DenA.nil ⟩
end
section
variable {W : Gl} {n : Nat} {Γ : Lay} {G : List Str}
theorem BE.and {x y : Expr} {fx fy : List S → Option D} {pos} (hx : Bx (DenE W n Γ G x fx)) (hy : Bx (DenE W n Γ G y fy)) : Bx (DenE W n Γ G (.BoolOp .And [x, y] pos) (fun ρ => ite1 (btrue (fx ρ)) (fy ρ) (some (.bool false)))) := ⟨DenE.and (hx := hx.h) (hy := hy.h)⟩
end
section
variable {W : Gl} {n : Nat} {Γ : Lay} {G : List Str}
theorem BE.bin {op : Operator} {F : D → D → Option D} {l r : Expr} {f g : List S → Option D} {pos} (hop : BinSem W op F) (ha : Bx (DenE W n Γ G l f)) (hb : Bx (DenE W n Γ G r g)) (hn : 1 ≤ n := by decide) : Bx (DenE W n Γ G (.BinOp l op r pos) (fun ρ => bind2 F (f ρ) (g ρ))) := ⟨DenE.bin (hop := hop) (ha := ha.h) (hb := hb.h) (hn := hn)⟩
end
section
variable {W : Gl} {n : Nat} {Γ : Lay} {G : List Str}
theorem BE.bool (b : Bool) {k p} : Bx (DenE W n Γ G (.Constant (.bool b) k p) (fun _ => some (.bool b))) := ⟨DenE.bool (b := b)⟩
end
section
variable {W : Gl} {n : Nat} {Γ : Lay} {G : List Str}
theorem BE.call (B : W.Ok) {x : Str} {r : Nat} {F : List D → Option D} {e : Expr} {es : List Expr} {fs : List S → Option (List D)} {p pos} (C : Contract W x r F) (ha : Bx (DenA W n Γ G (e :: es) fs)) (hx : x ∈ G := by decide +kernel) (hr : r + 1 ≤ n := by decide) (hs : isStarred e = false := by rfl) : Bx (DenE W n Γ G (.Call (.Name x p) (e :: es) [] pos) (fun ρ => bind1 F (fs ρ))) := ⟨DenE.call (B := B) (C := C) (ha := ha.h) (hx := hx) (hr := hr) (hs := hs)⟩
end
section
variable {W : Gl} {n : Nat} {Γ : Lay} {G : List Str}
theorem BE.callB (B : W.Fine) (x : Str) {v : Value} {F : List D → Option D} {e : Expr} {es : List Expr} {fs : List S → Option (List D)} {p pos} (C : CallSem W v F) (hk : (∃ id, v = .builtin id) ∨ ∃ T, v = .type T) (hm : x ∈ bnames) (hn : x ≠ "__name__") (hv : bootBuiltins x = some v) (ha : Bx (DenA W n Γ G (e :: es) fs)) (hx : x ∈ G) (hr : 3 ≤ n) (hs : noStars (e :: es) = true) : Bx (DenE W n Γ G (.Call (.Name x p) (e :: es) [] pos) (fun ρ => bind1 F (fs ρ))) := ⟨DenE.callB (B := B) (x := x) (C := C) (hk := hk) (hm := hm) (hn := hn) (hv := hv) (ha := ha.h) (hx := hx) (hr := hr) (hs := hs)⟩
end
section
variable {W : Gl} {n : Nat} {Γ : Lay} {G : List Str}
theorem BE.cmp {op : CmpOp} {F : D → D → Option Bool} {l r : Expr} {f g : List S → Option D} {pos} (hop : CmpSem W op F) (ha : Bx (DenE W n Γ G l f)) (hb : Bx (DenE W n Γ G r g)) (hm : behindInMarks op r = false := by with_unfolding_all rfl) (hn : 1 ≤ n := by decide) : Bx (DenE W n Γ G (.Compare l [op] [r] pos) (fun ρ => ebool (bind2 F (f ρ) (g ρ)))) := ⟨DenE.cmp (hop := hop) (ha := ha.h) (hb := hb.h) (hm := hm) (hn := hn)⟩
end
section
variable {W : Gl} {n : Nat} {Γ : Lay} {G : List Str}
theorem BE.fresh {e : Expr} {f : List S → Option (List D)} (h : Bx (DenF W n Γ G e f)) : Bx (DenE W n Γ G e (fun ρ => elst (f ρ))) := ⟨DenE.fresh (h := h.h)⟩
end
section
variable {W : Gl} {n : Nat} {Γ : Lay} {G : List Str} {e : Expr} {es : List Expr} {fs : List S → Option (List D)} {p pos : Pos}
theorem BE.glob (B : W.Ok) {x : Str} {d : D} (C : GlobC W x d) (hx : x ∈ G := by decide +kernel) : Bx (DenE W n Γ G (.Name x p) (fun _ => some d)) := ⟨DenE.glob (B := B) (C := C) (hx := hx)⟩
end
section
variable {W : Gl} {n : Nat} {Γ : Lay} {G : List Str}
theorem BE.idx {a b : Expr} {f g : List S → Option D} {pos} (ha : Bx (DenE W n Γ G a f)) (hb : Bx (DenE W n Γ G b g)) (hs : isSlice b = false := by rfl) : Bx (DenE W n Γ G (.Subscript a b pos) (fun ρ => bind2 didx (f ρ) (g ρ))) := ⟨DenE.idx (ha := ha.h) (hb := hb.h) (hs := hs)⟩
end
section
variable {W : Gl} {n : Nat} {Γ : Lay} {G : List Str}
theorem BE.int (i : Int) {k p} : Bx (DenE W n Γ G (.Constant (.int i) k p) (fun _ => some (.int i))) := ⟨DenE.int (i := i)⟩
end
section
variable {W : Gl} {n : Nat} {Γ : Lay} {G : List Str}
theorem BE.ite {t a b : Expr} {ft : List S → Option Bool} {fa fb : List S → Option D} {pos} (ht : Bx (DenT W n Γ G t ft)) (ha : Bx (DenE W n Γ G a fa)) (hb : Bx (DenE W n Γ G b fb)) : Bx (DenE W n Γ G (.IfExp t a b pos) (fun ρ => ite1 (ft ρ) (fa ρ) (fb ρ))) := ⟨DenE.ite (ht := ht.h) (ha := ha.h) (hb := hb.h)⟩
end
section
variable {W : Gl} {n : Nat} {Γ : Lay} {G : List Str} {e : Expr} {es : List Expr} {fs : List S → Option (List D)} {p pos : Pos}
theorem BE.len (B : W.Fine) (ha : Bx (DenA W n Γ G (e :: es) fs)) (hx : ("len" : Str) ∈ G := by decide +kernel) (hr : 3 ≤ n := by decide) (hs : noStars (e :: es) = true := by rfl) : Bx (DenE W n Γ G (.Call (.Name "len" p) (e :: es) [] pos) (fun ρ => bind1 flen (fs ρ))) := ⟨DenE.len (B := B) (ha := ha.h) (hx := hx) (hr := hr) (hs := hs)⟩
end
section
variable {W : Gl} {n : Nat} {Γ : Lay} {G : List Str}
theorem BE.none {k p} : Bx (DenE W n Γ G (.Constant .none k p) (fun _ => some .none)) := ⟨DenE.none ⟩
end
section
variable {W : Gl} {n : Nat} {Γ : Lay} {G : List Str}
theorem BE.oidx (i : Nat) {x : Str} {k : VK} {p : Pos} {b : Expr} {g : List S → Option D} {pos} (hb : Bx (DenE W n Γ G b g)) (hx : Γ[i]? = some (x, k) := by rfl) (hk : k ≠ .no := by decide) (hs : isSlice b = false := by rfl) : Bx (DenE W n Γ G (.Subscript (.Name x p) b pos) (fun ρ => bind2 didxO (eown i ρ) (g ρ))) := ⟨DenE.oidx (i := i) (hb := hb.h) (hx := hx) (hk := hk) (hs := hs)⟩
end
section
variable {W : Gl} {n : Nat} {Γ : Lay} {G : List Str}
theorem BE.olen (B : W.Fine) (i : Nat) {x : Str} {k : VK} {p p' pos : Pos} (hx : Γ[i]? = some (x, k) := by rfl) (hk : k ≠ .no := by decide) (hG : ("len" : Str) ∈ G := by decide +kernel) : Bx (DenE W n Γ G (.Call (.Name "len" p) [.Name x p'] [] pos) (fun ρ => bind1 dlenO (eown i ρ))) := ⟨DenE.olen (B := B) (i := i) (hx := hx) (hk := hk) (hG := hG)⟩
end
section
variable {W : Gl} {n : Nat} {Γ : Lay} {G : List Str}
theorem BE.str (x : Str) {k p} : Bx (DenE W n Γ G (.Constant (.str x) k p) (fun _ => some (.str x))) := ⟨DenE.str (x := x)⟩
end
section
variable {W : Gl} {n : Nat} {Γ : Lay} {G : List Str}
theorem BE.tup {es : List Expr} {f : List S → Option (List D)} {k pos} (ha : Bx (DenA W n Γ G es f)) : Bx (DenE W n Γ G (.Tuple es k pos) (fun ρ => bind1 etup (f ρ))) := ⟨DenE.tup (ha := ha.h)⟩
end
section
variable {W : Gl} {n : Nat} {Γ : Lay} {G : List Str}
theorem BE.un {op : UnaryOp} {F : D → Option D} {l : Expr} {f : List S → Option D} {pos} (hop : UnSem W op F) (ha : Bx (DenE W n Γ G l f)) (hn : 1 ≤ n := by decide) : Bx (DenE W n Γ G (.UnaryOp op l pos) (fun ρ => bind1 F (f ρ))) := ⟨DenE.un (hop := hop) (ha := ha.h) (hn := hn)⟩
end
section
variable {W : Gl} {n : Nat} {Γ : Lay} {G : List Str}
theorem BE.var (i : Nat) {x : Str} {k : VK} {p} (hx : Γ[i]? = some (x, k) := by rfl) (hk : k ≠ .no := by decide) : Bx (DenE W n Γ G (.Name x p) (evar i)) := ⟨DenE.var (i := i) (hx := hx) (hk := hk)⟩
end
section
variable {W : Gl} {n : Nat} {Γ : Lay} {G : List Str}
theorem BF.bin {op : Operator} {F : D → D → Option (List D)} {l r : Expr} {f g : List S → Option D} {pos} (hop : BinSemF W op F) (ha : Bx (DenE W n Γ G l f)) (hb : Bx (DenE W n Γ G r g)) (hn : 1 ≤ n := by decide) : Bx (DenF W n Γ G (.BinOp l op r pos) (fun ρ => bind2 F (f ρ) (g ρ))) := ⟨DenF.bin (hop := hop) (ha := ha.h) (hb := hb.h) (hn := hn)⟩
end
section
variable {W : Gl} {n : Nat} {Γ : Lay} {G : List Str}
theorem BF.call (B : W.Ok) {x : Str} {r : Nat} {F : List D → Option (List D)} {e : Expr} {es : List Expr} {fs : List S → Option (List D)} {p pos} (C : ContractF W x r F) (ha : Bx (DenA W n Γ G (e :: es) fs)) (hx : x ∈ G := by decide +kernel) (hr : r + 1 ≤ n := by decide) (hs : isStarred e = false := by rfl) : Bx (DenF W n Γ G (.Call (.Name x p) (e :: es) [] pos) (fun ρ => bind1 F (fs ρ))) := ⟨DenF.call (B := B) (C := C) (ha := ha.h) (hx := hx) (hr := hr) (hs := hs)⟩
end
section
variable {W : Gl} {n : Nat} {Γ : Lay} {G : List Str}
theorem BF.callB (B : W.Fine) (x : Str) {v : Value} {F : List D → Option (List D)} {e : Expr} {es : List Expr} {fs : List S → Option (List D)} {p pos} (C : CallSemF W v F) (hk : (∃ id, v = .builtin id) ∨ ∃ T, v = .type T) (hm : x ∈ bnames) (hn : x ≠ "__name__") (hv : bootBuiltins x = some v) (ha : Bx (DenA W n Γ G (e :: es) fs)) (hx : x ∈ G) (hr : 3 ≤ n) (hs : noStars (e :: es) = true) : Bx (DenF W n Γ G (.Call (.Name x p) (e :: es) [] pos) (fun ρ => bind1 F (fs ρ))) := ⟨DenF.callB (B := B) (x := x) (C := C) (hk := hk) (hm := hm) (hn := hn) (hv := hv) (ha := ha.h) (hx := hx) (hr := hr) (hs := hs)⟩
end
section
variable {W : Gl} {n : Nat} {Γ : Lay} {G : List Str}
theorem BF.comp {tg iter elt : Expr} {ifs : List Expr} {sc : Scope} {tl : Nat} {Γ' : Lay} {G' : List Str} {pos : Pos} {u : D → List S → Option (List S)} {t : List S → Option Bool} {g : List S → Option D} {fs : List S → Option (List D)} (cs : CompS Γ G sc tl Γ' G') (hi : Bx (DenI W n Γ G tg iter fs)) (hu : Bx (DenTg W Γ' G' tl tg u)) (ht : Bx (DenIfs W n Γ' G' ifs t)) (hg : Bx (DenE W n Γ' G' elt g)) (hs : notSet iter = true := by rfl) : Bx (DenF W n Γ G (.ListComp elt [⟨tg, iter, ifs, 0⟩] sc pos) (fun ρ => bind1 (fun ds => bind1 elist (compL u t g ds (unbs tl ρ))) (fs ρ))) := ⟨DenF.comp (cs := cs) (hi := hi.h) (hu := hu.h) (ht := ht.h) (hg := hg.h) (hs := hs)⟩
end
section
variable {W : Gl} {n : Nat} {Γ : Lay} {G : List Str}
theorem BF.list {es : List Expr} {f : List S → Option (List D)} {pos} (ha : Bx (DenA W n Γ G es f)) : Bx (DenF W n Γ G (.List es pos) (fun ρ => bind1 elist (f ρ))) := ⟨DenF.list (ha := ha.h)⟩
end
section
variable {W : Gl} {n : Nat} {Γ : Lay} {G : List Str}
theorem BF.sliceL {a u : Expr} {f g : List S → Option D} {p pos} (ha : Bx (DenE W n Γ G a f)) (hb : Bx (DenE W n Γ G u g)) : Bx (DenF W n Γ G (.Subscript a (.Slice (some u) none none p) pos) (fun ρ => bind2 (fun x y => dsub2 (some y) Option.none x) (f ρ) (g ρ))) := ⟨DenF.sliceL (ha := ha.h) (hb := hb.h)⟩
end
section
variable {W : Gl} {n : Nat} {Γ : Lay} {G : List Str}
theorem BF.sliceU {a u : Expr} {f g : List S → Option D} {p pos} (ha : Bx (DenE W n Γ G a f)) (hb : Bx (DenE W n Γ G u g)) : Bx (DenF W n Γ G (.Subscript a (.Slice none (some u) none p) pos) (fun ρ => bind2 (fun x y => dsub2 Option.none (some y) x) (f ρ) (g ρ))) := ⟨DenF.sliceU (ha := ha.h) (hb := hb.h)⟩
end
section
variable {W : Gl} {n : Nat} {Γ : Lay} {G : List Str} {tg : Expr}
theorem BI.enum (B : W.Fine) {e : Expr} {fs : List S → Option (List D)} {p pos : Pos} {elts : List Expr} {x1 : Nat} {tp : Pos} (ha : Bx (DenA W n Γ G [e] fs)) (hx : ("enumerate" : Str) ∈ G := by decide +kernel) (hs : noStars [e] = true := by rfl) : Bx (DenI W n Γ G (.Tuple elts x1 tp) (.Call (.Name "enumerate" p) [e] [] pos) (fun ρ => bind1 denum (fs ρ))) := ⟨DenI.enum (B := B) (ha := ha.h) (hx := hx) (hs := hs)⟩
end
section
variable {W : Gl} {n : Nat} {Γ : Lay} {G : List Str} {tg : Expr}
theorem BI.rev (B : W.Fine) {e : Expr} {fs : List S → Option (List D)} {p pos : Pos} (ha : Bx (DenA W n Γ G [e] fs)) (hx : ("reversed" : Str) ∈ G := by decide +kernel) (hs : noStars [e] = true := by rfl) : Bx (DenI W n Γ G tg (.Call (.Name "reversed" p) [e] [] pos) (fun ρ => bind1 drev (fs ρ))) := ⟨DenI.rev (B := B) (ha := ha.h) (hx := hx) (hs := hs)⟩
end
section
variable {W : Gl} {n : Nat} {Γ : Lay} {G : List Str} {tg : Expr}
theorem BI.rng1 (B : W.Fine) {e : Expr} {fs : List S → Option (List D)} {p pos : Pos} (ha : Bx (DenA W n Γ G [e] fs)) (hx : ("range" : Str) ∈ G := by decide +kernel) (hs : noStars [e] = true := by rfl) : Bx (DenI W n Γ G tg (.Call (.Name "range" p) [e] [] pos) (fun ρ => bind1 Gos.rng1 (fs ρ))) := ⟨DenI.rng1 (B := B) (ha := ha.h) (hx := hx) (hs := hs)⟩
end
section
variable {W : Gl} {n : Nat} {Γ : Lay} {G : List Str} {tg : Expr}
theorem BI.rng2 (B : W.Fine) {e e2 : Expr} {fs : List S → Option (List D)} {p pos : Pos} (ha : Bx (DenA W n Γ G [e, e2] fs)) (hx : ("range" : Str) ∈ G := by decide +kernel) (hs : noStars [e, e2] = true := by rfl) : Bx (DenI W n Γ G tg (.Call (.Name "range" p) [e, e2] [] pos) (fun ρ => bind1 Gos.rng2 (fs ρ))) := ⟨DenI.rng2 (B := B) (ha := ha.h) (hx := hx) (hs := hs)⟩
end
section
variable {W : Gl} {n : Nat} {Γ : Lay} {G : List Str} {tg : Expr}
theorem BI.rng3 (B : W.Fine) {e e2 e3 : Expr} {fs : List S → Option (List D)} {p pos : Pos} (ha : Bx (DenA W n Γ G [e, e2, e3] fs)) (hx : ("range" : Str) ∈ G := by decide +kernel) (hs : noStars [e, e2, e3] = true := by rfl) : Bx (DenI W n Γ G tg (.Call (.Name "range" p) [e, e2, e3] [] pos) (fun ρ => bind1 Gos.rng3 (fs ρ))) := ⟨DenI.rng3 (B := B) (ha := ha.h) (hx := hx) (hs := hs)⟩
end
section
variable {W : Gl} {n : Nat} {Γ : Lay} {G : List Str} {tg : Expr}
theorem BI.seq {e : Expr} {f : List S → Option D} (ha : Bx (DenE W n Γ G e f)) : Bx (DenI W n Γ G tg e (fun ρ => bind1 dseq (f ρ))) := ⟨DenI.seq (ha := ha.h)⟩
end
section
variable {W : Gl} {n : Nat} {Γ : Lay} {G : List Str}
theorem BIfs.nil  : Bx (DenIfs W n Γ G [] (fun _ => some true)) := ⟨DenIfs.nil ⟩
end
section
variable {W : Gl} {n : Nat} {Γ : Lay} {G : List Str}
theorem BIfs.one {c : Expr} {t : List S → Option Bool} (ht : Bx (DenT W n Γ G c t)) : Bx (DenIfs W n Γ G [c] t) := ⟨DenIfs.one (ht := ht.h)⟩
end
section
variable {W : Gl} {n : Nat} {Γ : Lay} {G : List Str}
theorem BIts.consD {es : List Expr} {fs : List S → Option (List It)} {pos' : Pos} (hbig : ∃ b, 1 < b ∧ W.h₀.get? b ≠ none) (hb : Bx (DenIts W n Γ G es fs)) : Bx (DenIts W n Γ G (.Dict [] [] pos' :: es) (fun ρ => bind1 (fun its => some (.f (.dct []) :: its)) (fs ρ))) := ⟨DenIts.consD (hbig := hbig) (hb := hb.h)⟩
end
section
variable {W : Gl} {n : Nat} {Γ : Lay} {G : List Str}
theorem BIts.consE {e : Expr} {es : List Expr} {f : List S → Option D} {fs : List S → Option (List It)} (ha : Bx (DenE W n Γ G e f)) (hb : Bx (DenIts W n Γ G es fs)) (hs : isStarred e = false := by rfl) : Bx (DenIts W n Γ G (e :: es) (fun ρ => bind2 Gos.consE (f ρ) (fs ρ))) := ⟨DenIts.consE (ha := ha.h) (hb := hb.h) (hs := hs)⟩
end
section
variable {W : Gl} {n : Nat} {Γ : Lay} {G : List Str}
theorem BIts.consF {e : Expr} {es : List Expr} {f : List S → Option (List D)} {fs : List S → Option (List It)} (ha : Bx (DenF W n Γ G e f)) (hb : Bx (DenIts W n Γ G es fs)) (hs : isStarred e = false := by rfl) : Bx (DenIts W n Γ G (e :: es) (fun ρ => bind2 Gos.consI (f ρ) (fs ρ))) := ⟨DenIts.consF (ha := ha.h) (hb := hb.h) (hs := hs)⟩
end
section
variable {W : Gl} {n : Nat} {Γ : Lay} {G : List Str}
theorem BIts.nil  : Bx (DenIts W n Γ G [] (fun _ => some [])) := ⟨DenIts.nil ⟩
end
section
variable {W : Gl} {n : Nat} {Γ : Lay} {G : List Str}
theorem BK.setItem (i : Nat) {x : Str} {kd : VK} {e ei : Expr} {p sp pos : Pos} {f fi : List S → Option D} (ha : Bx (DenE W n Γ G e f)) (hi : Bx (DenE W n Γ G ei fi)) (hx : Γ[i]? = some (x, kd) := by rfl) (hk : kd ≠ .no := by decide) (hs : ∀ env, EnvS Γ G env → swapsWith e (some (.Subscript (.Name x p) ei sp)) pos.line env = pure false := by intro _ _; rfl) : Bx (DenK W n Γ G (.Assign [.Subscript (.Name x p) ei sp] e pos) (fun ρ => setOK i ρ (fi ρ) (f ρ))) := ⟨DenK.setItem (i := i) (ha := ha.h) (hi := hi.h) (hx := hx) (hk := hk) (hs := hs)⟩
end
section
variable {W : Gl} {n : Nat} {Γ : Lay} {G : List Str}
theorem BK.swap (i i1 i2 : Nat) {x y z : Str} {kd k1 k2 : VK} {p1 p2 p3 p4 q1 q2 q3 q4 s1 s2 s3 s4 tp vp pos : Pos} {x1 x2 : Nat} (hn : 1 ≤ n) (hx : Γ[i]? = some (x, kd)) (hk : kd ≠ .no) (hy : Γ[i1]? = some (y, k1)) (hky : k1 ≠ .no) (hz : Γ[i2]? = some (z, k2)) (hkz : k2 ≠ .no) (n1 : i ≠ i1) (n2 : i ≠ i2) : Bx (DenK W n Γ G (.Assign [.Tuple [.Subscript (.Name x p1) (.Name y q1) s1, .Subscript (.Name x p2) (.Name z q2) s2] x1 tp] (.Tuple [.Subscript (.Name x p3) (.Name z q3) s3, .Subscript (.Name x p4) (.Name y q4) s4] x2 vp) pos)
      (fun ρ => swapOK i ρ (evar i1 ρ) (evar i2 ρ))) := ⟨DenK.swap (i := i) (i1 := i1) (i2 := i2) (hn := hn) (hx := hx) (hk := hk) (hy := hy) (hky := hky) (hz := hz) (hkz := hkz) (n1 := n1) (n2 := n2)⟩
end
section
variable {W : Gl} {n : Nat} {Γ : Lay} {G : List Str}
theorem BO.append (i : Nat) {x : Str} {kd : VK} {e : Expr} {p ap cp pos : Pos} {f : List S → Option D} (ha : Bx (DenE W n Γ G e f)) (hx : Γ[i]? = some (x, kd) := by rfl) (hk : kd ≠ .no := by decide) (hl : (ap.endLine == cp.line) = true := by rfl) (he : isStarred e = false := by rfl) : Bx (DenO W n Γ G (.Expr (.Call (.Attribute (.Name x p) "append" ap) [e] [] cp) pos) (fun ρ => appO i ρ (f ρ))) := ⟨DenO.append (i := i) (ha := ha.h) (hx := hx) (hk := hk) (hl := hl) (he := he)⟩
end
section
variable {W : Gl} {n : Nat} {Γ : Lay} {G : List Str}
theorem BO.assign (i : Nat) {x : Str} {kd : VK} {e : Expr} {p pos : Pos} {f : List S → Option D} (ha : Bx (DenE W n Γ G e f)) (hx : Γ[i]? = some (x, kd) := by rfl) (hk : kd ≠ .no := by decide) (hs : ∀ env, EnvS Γ G env → swapsWith e (some (.Name x p)) pos.line env = pure false := by intro _ _; rfl) : Bx (DenO W n Γ G (.Assign [.Name x p] e pos) (fun ρ => setE i ρ (f ρ))) := ⟨DenO.assign (i := i) (ha := ha.h) (hx := hx) (hk := hk) (hs := hs)⟩
end
section
variable {W : Gl} {n : Nat} {Γ : Lay} {G : List Str}
theorem BO.assignF (i : Nat) {x : Str} {kd : VK} {e : Expr} {p pos : Pos} {f : List S → Option (List D)} (ha : Bx (DenF W n Γ G e f)) (hx : Γ[i]? = some (x, kd) := by rfl) (hk : kd ≠ .no := by decide) (hs : ∀ env, EnvS Γ G env → swapsWith e (some (.Name x p)) pos.line env = pure false := by intro _ _; rfl) : Bx (DenO W n Γ G (.Assign [.Name x p] e pos) (fun ρ => setF i ρ (f ρ))) := ⟨DenO.assignF (i := i) (ha := ha.h) (hx := hx) (hk := hk) (hs := hs)⟩
end
section
variable {W : Gl} {n : Nat} {Γ : Lay} {G : List Str}
theorem BO.aug (i : Nat) {x : Str} {kd : VK} {op : Operator} {F : D → D → Option D} {e : Expr} {p pos : Pos} {f : List S → Option D} (hop : InpSem W op F) (ha : Bx (DenE W n Γ G e f)) (hx : Γ[i]? = some (x, kd) := by rfl) (hk : kd ≠ .no := by decide) (hn : 1 ≤ n := by decide) : Bx (DenO W n Γ G (.AugAssign (.Name x p) op e pos) (fun ρ => setE i ρ (bind2 F (evar i ρ) (f ρ)))) := ⟨DenO.aug (i := i) (hop := hop) (ha := ha.h) (hx := hx) (hk := hk) (hn := hn)⟩
end
section
variable {W : Gl} {n : Nat} {Γ : Lay} {G : List Str}
theorem BO.augItem (i : Nat) {x : Str} {kd : VK} {op : Operator} {F : D → D → Option D} {e ei : Expr} {p sp pos : Pos} {f fi : List S → Option D} (hop : InpSem W op F) (ha : Bx (DenE W n Γ G e f)) (hi : Bx (DenE W n Γ G ei fi)) (hx : Γ[i]? = some (x, kd) := by rfl) (hk : kd ≠ .no := by decide) (hn : 1 ≤ n := by decide) (hj : ∀ ov iv new, augStore ei ov iv new = (do holding [new, ov, iv] (PySem.setItem ov iv new); release [new, ov, iv] []; pure .next) := by intros; rfl) : Bx (DenO W n Γ G (.AugAssign (.Subscript (.Name x p) ei sp) op e pos) (fun ρ => augOF F i ρ (fi ρ) (f ρ))) := ⟨DenO.augItem (i := i) (hop := hop) (ha := ha.h) (hi := hi.h) (hx := hx) (hk := hk) (hn := hn) (hj := hj)⟩
end
section
variable {W : Gl} {n : Nat} {Γ : Lay} {G : List Str}
theorem BO.comp2E (i0 i j : Nat) {x0 : Str} {p0 pos cp : Pos} {x y : Str} {kx ky : VK} {px py : Pos} {i1 i2 elt : Expr} {sc : Scope} {tl : Nat} {Γ' : Lay} {G' : List Str} {g : List S → Option D} {fs fs2 : List S → Option (List D)} (cs : CompS Γ G sc tl Γ' G') (hi : Bx (DenI W n Γ G (.Name x px) i1 fs)) (hi2 : Bx (DenI W n Γ' G' (.Name y py) i2 fs2)) (hg : Bx (DenE W n Γ' G' elt g)) (h0 : Γ[i0]? = some (x0, VK.loc) := by rfl) (hx : Γ'[i]? = some (x, kx) := by rfl) (hkx : kx ≠ .no := by decide) (hil : i < tl := by decide) (hy : Γ'[j]? = some (y, ky) := by rfl) (hky : ky ≠ .no := by decide) (hjl : j < tl := by decide) (hij : i ≠ j := by decide) (hl : (p0.line == cp.line) = true := by rfl) (hn : (sc.names.any fun (n, k) => n == x0 && (k == .local || k == .cell)) = false := by decide +kernel) (hns : notSet i1 = true := by rfl) (hs2 : notSet i2 = true := by rfl) : Bx (DenO W n Γ G (.Assign [.Name x0 p0] (.ListComp elt [⟨.Name x px, i1, [], 0⟩, ⟨.Name y py, i2, [], 0⟩] sc cp) pos) (fun ρ => setE i0 ρ (elst (bind1 (fun ds => bind1 elist (comp2 i j fs2 g ds (unbs tl ρ))) (fs ρ))))) := ⟨DenO.comp2E (i0 := i0) (i := i) (j := j) (cs := cs) (hi := hi.h) (hi2 := hi2.h) (hg := hg.h) (h0 := h0) (hx := hx) (hkx := hkx) (hil := hil) (hy := hy) (hky := hky) (hjl := hjl) (hij := hij) (hl := hl) (hn := hn) (hns := hns) (hs2 := hs2)⟩
end
section
variable {W : Gl} {n : Nat} {Γ : Lay} {G : List Str}
theorem BO.compE (i : Nat) {x : Str} {p pos cp : Pos} {tg iter elt : Expr} {ifs : List Expr} {sc : Scope} {tl : Nat} {Γ' : Lay} {G' : List Str} {u : D → List S → Option (List S)} {t : List S → Option Bool} {g : List S → Option D} {fs : List S → Option (List D)} (cs : CompS Γ G sc tl Γ' G') (hi : Bx (DenI W n Γ G tg iter fs)) (hu : Bx (DenTg W Γ' G' tl tg u)) (ht : Bx (DenIfs W n Γ' G' ifs t)) (hg : Bx (DenE W n Γ' G' elt g)) (hx : Γ[i]? = some (x, VK.loc) := by rfl) (hl : (p.line == cp.line) = true := by rfl) (hn : (sc.names.any fun (n, k) => n == x && (k == .local || k == .cell)) = false := by decide +kernel) (hns : notSet iter = true := by rfl) : Bx (DenO W n Γ G (.Assign [.Name x p] (.ListComp elt [⟨tg, iter, ifs, 0⟩] sc cp) pos) (fun ρ => setE i ρ (elst (bind1 (fun ds => bind1 elist (compL u t g ds (unbs tl ρ))) (fs ρ))))) := ⟨DenO.compE (i := i) (cs := cs) (hi := hi.h) (hu := hu.h) (ht := ht.h) (hg := hg.h) (hx := hx) (hl := hl) (hn := hn) (hns := hns)⟩
end
section
variable {W : Gl} {n : Nat} {Γ : Lay} {G : List Str}
theorem BO.cont {pos : Pos} : Bx (DenO W n Γ G (.Continue pos) contF) := ⟨DenO.cont ⟩
end
section
variable {W : Gl} {n : Nat} {Γ : Lay} {G : List Str}
theorem BO.drop {e : Expr} {pos : Pos} {f : List S → Option D} (ha : Bx (DenE W n Γ G e f)) (hs : ∀ env, EnvS Γ G env → swapsWith e none pos.line env = pure false := by intro _ _; rfl) : Bx (DenO W n Γ G (.Expr e pos) (fun ρ => dropF ρ (f ρ))) := ⟨DenO.drop (ha := ha.h) (hs := hs)⟩
end
section
variable {W : Gl} {n : Nat} {Γ : Lay} {G : List Str}
theorem BO.for {k : Nat} {tg iter : Expr} {body : List Stmt} {pos : Pos} {u : D → List S → Option (List S)} {gb : List S → Option Fl} {fs : List S → Option (List D)} (hi : Bx (DenI W n Γ G tg iter fs)) (hu : Bx (DenTg W Γ G k tg u)) (hbd : Bx (DenS W n Γ G body gb)) (hs : notSet iter = true := by rfl) : Bx (DenO W n Γ G (.For tg iter body [] pos) (fun ρ => bind1 (fun ds => forL u gb ds ρ) (fs ρ))) := ⟨DenO.for (hi := hi.h) (hu := hu.h) (hbd := hbd.h) (hs := hs)⟩
end
section
variable {W : Gl} {n : Nat} {Γ : Lay} {G : List Str}
theorem BO.if {c : Expr} {b o : List Stmt} {pos : Pos} {ft : List S → Option Bool} {gb go : List S → Option Fl} (ht : Bx (DenT W n Γ G c ft)) (hb : Bx (DenS W n Γ G b gb)) (ho : Bx (DenS W n Γ G o go)) : Bx (DenO W n Γ G (.If c b o pos) (fun ρ => ite1 (ft ρ) (gb ρ) (go ρ))) := ⟨DenO.if (ht := ht.h) (hb := hb.h) (ho := ho.h)⟩
end
section
variable {W : Gl} {n : Nat} {Γ : Lay} {G : List Str}
theorem BO.insert (i : Nat) {x : Str} {kd : VK} {e1 e2 : Expr} {p ap cp pos : Pos} {f1 f2 : List S → Option D} (ha : Bx (DenE W n Γ G e1 f1)) (hb : Bx (DenE W n Γ G e2 f2)) (hx : Γ[i]? = some (x, kd) := by rfl) (hk : kd ≠ .no := by decide) (hl : (ap.endLine == cp.line) = true := by rfl) (he1 : isStarred e1 = false := by rfl) (he2 : isStarred e2 = false := by rfl) : Bx (DenO W n Γ G (.Expr (.Call (.Attribute (.Name x p) "insert" ap) [e1, e2] [] cp) pos) (fun ρ => insO i ρ (f1 ρ) (f2 ρ))) := ⟨DenO.insert (i := i) (ha := ha.h) (hb := hb.h) (hx := hx) (hk := hk) (hl := hl) (he1 := he1) (he2 := he2)⟩
end
section
variable {W : Gl} {n : Nat} {Γ : Lay} {G : List Str}
theorem BO.io (i : Nat) (B : W.Ok) {x f : Str} {kd : VK} {r : Nat} {F : List D → List D → Option (List D)} {es : List Expr} {fs : List S → Option (List D)} {p q cp pos : Pos} (C : ContractIO W f r F) (ha : Bx (DenA W n Γ G es fs)) (hx : Γ[i]? = some (x, kd) := by rfl) (hk : kd ≠ .no := by decide) (hf : f ∈ G := by decide +kernel) (hr : r + 1 ≤ n := by decide) : Bx (DenO W n Γ G (.Expr (.Call (.Name f p) (.Name x q :: es) [] cp) pos) (fun ρ => ioF i F ρ (fs ρ))) := ⟨DenO.io (i := i) (B := B) (C := C) (ha := ha.h) (hx := hx) (hk := hk) (hf := hf) (hr := hr)⟩
end
section
variable {W : Gl} {n : Nat} {Γ : Lay} {G : List Str}
theorem BO.pop (i : Nat) {k x1 : Nat} {x : Str} {kd : VK} {ts : List Expr} {is : List Nat} {tp p ap cp pos : Pos} (N : Names Γ k ts is) (hx : Γ[i]? = some (x, kd) := by rfl) (hk : kd ≠ .no := by decide) (hl : (ap.endLine == cp.line) = true := by rfl) : Bx (DenO W n Γ G (.Assign [.Tuple ts x1 tp] (.Call (.Attribute (.Name x p) "pop" ap) [] [] cp) pos) (popO i is)) := ⟨DenO.pop (i := i) (N := N) (hx := hx) (hk := hk) (hl := hl)⟩
end
section
variable {W : Gl} {n : Nat} {Γ : Lay} {G : List Str}
theorem BO.ret {e : Expr} {pos : Pos} {f : List S → Option D} (ha : Bx (DenE W n Γ G e f)) : Bx (DenO W n Γ G (.Return (some e) pos) (fun ρ => retE (f ρ))) := ⟨DenO.ret (ha := ha.h)⟩
end
section
variable {W : Gl} {n : Nat} {Γ : Lay} {G : List Str}
theorem BO.retF {e : Expr} {pos : Pos} {f : List S → Option (List D)} (ha : Bx (DenF W n Γ G e f)) : Bx (DenO W n Γ G (.Return (some e) pos) (fun ρ => retFE (f ρ))) := ⟨DenO.retF (ha := ha.h)⟩
end
section
variable {W : Gl} {n : Nat} {Γ : Lay} {G : List Str}
theorem BO.setDict (i : Nat) {x : Str} {kd : VK} {p sp pos : Pos} {e ei : Expr} {f fi : List S → Option D} (ha : Bx (DenE W n Γ G e f)) (hi : Bx (DenE W n Γ G ei fi)) (hx : Γ[i]? = some (x, kd) := by rfl) (hk : kd ≠ .no := by decide) (hs : ∀ env, EnvS Γ G env → swapsWith e (some (.Subscript (.Name x p) ei sp)) pos.line env = pure false := by intro _ _; rfl) : Bx (DenO W n Γ G (.Assign [.Subscript (.Name x p) ei sp] e pos) (fun ρ => setD i ρ (fi ρ) (f ρ))) := ⟨DenO.setDict (i := i) (ha := ha.h) (hi := hi.h) (hx := hx) (hk := hk) (hs := hs)⟩
end
section
variable {W : Gl} {n : Nat} {Γ : Lay} {G : List Str}
theorem BO.setItem (i : Nat) {x : Str} {kd : VK} {e ei : Expr} {p sp pos : Pos} {f fi : List S → Option D} (ha : Bx (DenE W n Γ G e f)) (hi : Bx (DenE W n Γ G ei fi)) (hx : Γ[i]? = some (x, kd) := by rfl) (hk : kd ≠ .no := by decide) (hs : ∀ env, EnvS Γ G env → swapsWith e (some (.Subscript (.Name x p) ei sp)) pos.line env = pure false := by intro _ _; rfl) : Bx (DenO W n Γ G (.Assign [.Subscript (.Name x p) ei sp] e pos) (fun ρ => setOF i ρ (fi ρ) (f ρ))) := ⟨DenO.setItem (i := i) (ha := ha.h) (hi := hi.h) (hx := hx) (hk := hk) (hs := hs)⟩
end
section
variable {W : Gl} {n : Nat} {Γ : Lay} {G : List Str}
theorem BO.tryN {body : List Stmt} {h₀ : ExceptHandler} {hs : List ExceptHandler} {pos : Pos} {gb : List S → Option Fl} (hb : Bx (DenS W n Γ G body gb)) : Bx (DenO W n Γ G (.Try body (h₀ :: hs) [] [] pos) gb) := ⟨DenO.tryN (hb := hb.h)⟩
end
section
variable {W : Gl} {n : Nat} {Γ : Lay} {G : List Str}
theorem BO.tupP {k x1 x2 : Nat} {p p2 pos : Pos} {ts vs : List Expr} {is : List Nat} {fs : List S → Option (List It)} (N : Names Γ k ts is) (ha : Bx (DenIts W n Γ G vs fs)) (hw : swS Γ ts is vs = some none := by decide +kernel) (hl : Nat.ble ts.length 8 = true := by rfl) : Bx (DenO W n Γ G (.Assign [.Tuple ts x1 p] (.Tuple vs x2 p2) pos) (fun ρ => bind1 (fun its => nextR (uits is its ρ)) (fs ρ))) := ⟨DenO.tupP (N := N) (ha := ha.h) (hw := hw) (hl := hl)⟩
end
section
variable {W : Gl} {n : Nat} {Γ : Lay} {G : List Str}
theorem BO.tupS {k x1 x2 : Nat} {p p2 pos : Pos} {ts vs : List Expr} {is isr : List Nat} {fs : List S → Option (List It)} {names : List Str} (N : Names Γ k ts is) (ha : Bx (DenIts W n Γ G vs fs)) (hw : swS Γ ts is vs = some (some names) := by decide +kernel) (hr : isr = is.reverse := by rfl) : Bx (DenO W n Γ G (.Assign [.Tuple ts x1 p] (.Tuple vs x2 p2) pos) (fun ρ => bind1 (fun its => nextR (uits isr its.reverse ρ)) (fs ρ))) := ⟨DenO.tupS (N := N) (ha := ha.h) (hw := hw) (hr := hr)⟩
end
section
variable {W : Gl} {n : Nat} {Γ : Lay} {G : List Str}
theorem BO.tupV {k x1 : Nat} {p pos : Pos} {ts : List Expr} {e : Expr} {is : List Nat} {f : List S → Option D} (N : Names Γ k ts is) (ha : Bx (DenE W n Γ G e f)) (ht : ∀ env, swappedStores [.Tuple ts x1 p] e env = pure none := by intro _; rfl) (hs : ∀ env, swapsWithSole [.Tuple ts x1 p] e pos.line env = pure false := by intro _; rfl) : Bx (DenO W n Γ G (.Assign [.Tuple ts x1 p] e pos) (fun ρ => bind1 (fun d => nextR (utupD is d ρ)) (f ρ))) := ⟨DenO.tupV (N := N) (ha := ha.h) (ht := ht) (hs := hs)⟩
end
section
variable {W : Gl} {n : Nat} {Γ : Lay} {G : List Str}
theorem BO.while (k : Nat) {c : Expr} {b : List Stmt} {pos : Pos} {ft : List S → Option Bool} {gb : List S → Option Fl} (ht : Bx (DenT W n Γ G c ft)) (hb : Bx (DenS W n Γ G b gb)) : Bx (DenO W n Γ G (.While c b [] pos) (whileL ft gb k)) := ⟨DenO.while (k := k) (ht := ht.h) (hb := hb.h)⟩
end
section
variable {W : Gl} {n : Nat} {Γ : Lay} {G : List Str}
theorem BS.cons {st : Stmt} {rest : List Stmt} {g1 g2 : List S → Option Fl} (h1 : Bx (DenO W n Γ G st g1)) (h2 : Bx (DenS W n Γ G rest g2)) : Bx (DenS W n Γ G (st :: rest) (fun ρ => bind1 (seqF g2) (g1 ρ))) := ⟨DenS.cons (h1 := h1.h) (h2 := h2.h)⟩
end
section
variable {W : Gl} {n : Nat} {Γ : Lay} {G : List Str}
theorem BS.freeze (i : Nat) {x : Str} {k : VK} {sts : List Stmt} {g : List S → Option Fl} (h : Bx (DenS W n Γ G sts g)) (hx : Γ[i]? = some (x, k) := by rfl) (hk : k ≠ .no := by decide) : Bx (DenS W n Γ G sts (fun ρ => bind1 g (Gos.freeze i ρ))) := ⟨DenS.freeze (i := i) (h := h.h) (hx := hx) (hk := hk)⟩
end
section
variable {W : Gl} {n : Nat} {Γ : Lay} {G : List Str}
theorem BS.nil  : Bx (DenS W n Γ G [] nextF) := ⟨DenS.nil ⟩
end
section
variable {W : Gl} {n : Nat} {Γ : Lay} {G : List Str}
theorem BS.one {st : Stmt} {g1 : List S → Option Fl} (h1 : Bx (DenO W n Γ G st g1)) : Bx (DenS W n Γ G [st] g1) := ⟨DenS.one (h1 := h1.h)⟩
end
section
variable {W : Gl} {n : Nat} {Γ : Lay} {G : List Str}
theorem BS.stuck {sts : List Stmt} : Bx (DenS W n Γ G sts stuck) := ⟨DenS.stuck ⟩
end
section
variable {W : Gl} {n : Nat} {Γ : Lay} {G : List Str}
theorem BT.and {x y : Expr} {fx fy : List S → Option Bool} {pos} (hx : Bx (DenT W n Γ G x fx)) (hy : Bx (DenT W n Γ G y fy)) : Bx (DenT W n Γ G (.BoolOp .And [x, y] pos) (fun ρ => ite1 (fx ρ) (fy ρ) (some false))) := ⟨DenT.and (hx := hx.h) (hy := hy.h)⟩
end
section
variable {W : Gl} {n : Nat} {Γ : Lay} {G : List Str}
theorem BT.chain2 {o1 o2 : CmpOp} {F1 F2 : D → D → Option Bool} {l m r : Expr} {f g h : List S → Option D} {pos} (h1 : CmpSem W o1 F1) (h2 : CmpSem W o2 F2) (ha : Bx (DenE W n Γ G l f)) (hb : Bx (DenE W n Γ G m g)) (hc : Bx (DenE W n Γ G r h)) (hm2 : behindInMarks o2 r = false := by with_unfolding_all rfl) (hn : 1 ≤ n := by decide) : Bx (DenT W n Γ G (.Compare l [o1, o2] [m, r] pos) (fun ρ => ite1 (bind2 F1 (f ρ) (g ρ)) (bind2 F2 (g ρ) (h ρ)) (some false))) := ⟨DenT.chain2 (h1 := h1) (h2 := h2) (ha := ha.h) (hb := hb.h) (hc := hc.h) (hm2 := hm2) (hn := hn)⟩
end
section
variable {W : Gl} {n : Nat} {Γ : Lay} {G : List Str}
theorem BT.cmp {op : CmpOp} {F : D → D → Option Bool} {l r : Expr} {f g : List S → Option D} {pos} (hop : CmpSem W op F) (ha : Bx (DenE W n Γ G l f)) (hb : Bx (DenE W n Γ G r g)) (hm : behindInMarks op r = false := by with_unfolding_all rfl) (hn : 1 ≤ n := by decide) : Bx (DenT W n Γ G (.Compare l [op] [r] pos) (fun ρ => bind2 F (f ρ) (g ρ))) := ⟨DenT.cmp (hop := hop) (ha := ha.h) (hb := hb.h) (hm := hm) (hn := hn)⟩
end
section
variable {W : Gl} {n : Nat} {Γ : Lay} {G : List Str} {e : Expr} {es : List Expr} {fs : List S → Option (List D)} {p pos : Pos}
theorem BT.isStr (B : W.Fine) {f : List S → Option D} {p' : Pos} (ha : Bx (DenE W n Γ G e f)) (hx : ("isinstance" : Str) ∈ G := by decide +kernel) (hy : ("str" : Str) ∈ G := by decide +kernel) (hs : isStarred e = false := by rfl) : Bx (DenT W n Γ G (.Call (.Name "isinstance" p) [e, .Name "str" p'] [] pos) (fun ρ => btrue (bind1 fisS (f ρ)))) := ⟨DenT.isStr (B := B) (ha := ha.h) (hx := hx) (hy := hy) (hs := hs)⟩
end
section
variable {W : Gl} {n : Nat} {Γ : Lay} {G : List Str}
theorem BT.not {t : Expr} {ft : List S → Option Bool} {pos} (ht : Bx (DenT W n Γ G t ft)) : Bx (DenT W n Γ G (.UnaryOp .Not t pos) (fun ρ => bnot (ft ρ))) := ⟨DenT.not (ht := ht.h)⟩
end
section
variable {W : Gl} {n : Nat} {Γ : Lay} {G : List Str}
theorem BT.notInD (i : Nat) {x : Str} {kd : VK} {p pos : Pos} {e : Expr} {f : List S → Option D} (ha : Bx (DenE W n Γ G e f)) (hx : Γ[i]? = some (x, kd) := by rfl) (hk : kd ≠ .no := by decide) (hm : behindInMarks .NotIn (.Name x p) = false := by with_unfolding_all rfl) : Bx (DenT W n Γ G (.Compare e [.NotIn] [.Name x p] pos) (fun ρ => notIn i ρ (f ρ))) := ⟨DenT.notInD (i := i) (ha := ha.h) (hx := hx) (hk := hk) (hm := hm)⟩
end
section
variable {W : Gl} {n : Nat} {Γ : Lay} {G : List Str}
theorem BT.ocmp {op : CmpOp} {F : D → D → Option Bool} (i : Nat) {x : Str} {k : VK} {p pos : Pos} {r : Expr} {g : List S → Option D} (hop : CmpSem W op F) (hb : Bx (DenE W n Γ G r g)) (hx : Γ[i]? = some (x, k) := by rfl) (hk : k ≠ .no := by decide) (hm : behindInMarks op r = false := by with_unfolding_all rfl) (hn : 1 ≤ n := by decide) : Bx (DenT W n Γ G (.Compare (.Name x p) [op] [r] pos) (fun ρ => bind2 F (elst (eown i ρ)) (g ρ))) := ⟨DenT.ocmp (i := i) (hop := hop) (hb := hb.h) (hx := hx) (hk := hk) (hm := hm) (hn := hn)⟩
end
section
variable {W : Gl} {n : Nat} {Γ : Lay} {G : List Str}
theorem BT.or {x y : Expr} {fx fy : List S → Option Bool} {pos} (hx : Bx (DenT W n Γ G x fx)) (hy : Bx (DenT W n Γ G y fy)) : Bx (DenT W n Γ G (.BoolOp .Or [x, y] pos) (fun ρ => ite1 (fx ρ) (some true) (fy ρ))) := ⟨DenT.or (hx := hx.h) (hy := hy.h)⟩
end
section
variable {W : Gl} {n : Nat} {Γ : Lay} {G : List Str}
theorem BT.or3 {x y z : Expr} {fx fy fz : List S → Option Bool} {pos} (hx : Bx (DenT W n Γ G x fx)) (hy : Bx (DenT W n Γ G y fy)) (hz : Bx (DenT W n Γ G z fz)) : Bx (DenT W n Γ G (.BoolOp .Or [x, y, z] pos) (fun ρ => ite1 (fx ρ) (some true) (ite1 (fy ρ) (some true) (fz ρ)))) := ⟨DenT.or3 (hx := hx.h) (hy := hy.h) (hz := hz.h)⟩
end
section
variable {W : Gl} {n : Nat} {Γ : Lay} {G : List Str}
theorem BT.val {e : Expr} {f : List S → Option D} (ha : Bx (DenE W n Γ G e f)) (he : ∀ env whole, isTrue e env whole = (do let v ← whole; standAt e.pos; holding [v] (truthy v)) := by intro _ _; rfl) : Bx (DenT W n Γ G e (fun ρ => btrue (f ρ))) := ⟨DenT.val (ha := ha.h) (he := he)⟩
end
section
variable {W : Gl} {n : Nat} {Γ : Lay} {G : List Str}
theorem BTg.name {k : Nat} (i : Nat) {x : Str} {kd : VK} {p : Pos} (hx : Γ[i]? = some (x, kd) := by rfl) (hk : kd ≠ .no := by decide) (hi : i < k := by decide) : Bx (DenTg W Γ G k (.Name x p) (uname i)) := ⟨DenTg.name (i := i) (hx := hx) (hk := hk) (hi := hi)⟩
end
section
variable {W : Gl} {n : Nat} {Γ : Lay} {G : List Str}
theorem BTg.tup {k : Nat} {es : List Expr} {is : List Nat} {x1 : Nat} {p : Pos} (N : Names Γ k es is) : Bx (DenTg W Γ G k (.Tuple es x1 p) (utupD is)) := ⟨DenTg.tup (N := N)⟩
end
end Gos
end

section
open PySem PySem.W PySem.Calls PyProof.Rows
namespace Gos
open PySem

structure Has (W : Gl) : Prop extends W.Fine where
  fn : ∀ {x : Str} {d : DefRec}, defOf qv x = some (d, []) → ∃ a o pm cd doc, W.mg x = some (.ref a) ∧ W.h₀.get? a = some o ∧ o.data = .func (docDef d.name d.params d.body d.scope pm cd doc) ∧ W.h₀.CodeRec cd d.name
  vals : obsN.map W.mg = valV
  objs : obsA.map W.h₀.get? = valO W.w.params

theorem b1 {P : List Value → Prop} (h : ∀ a, P [a]) : ∀ vals, vals.length = 1 → P vals
  | [a], _ => h a
theorem b2 {P : List Value → Prop} (h : ∀ a b, P [a, b]) : ∀ vals, vals.length = 2 → P vals
  | [a, b], _ => h a b
theorem b3 {P : List Value → Prop} (h : ∀ a b c, P [a, b, c]) : ∀ vals, vals.length = 3 → P vals
  | [a, b, c], _ => h a b c
theorem b4 {P : List Value → Prop} (h : ∀ a b c d, P [a, b, c, d]) : ∀ vals, vals.length = 4 → P vals
  | [a, b, c, d], _ => h a b c d
theorem def_at (k i : Nat) {x : Str} (h1 : defIdx[k]? = some i) (h2 : (recD i).name = x) (h3 : (recD i).params.defaults.isEmpty = true) : defOf qv x = some (recD i, []) := by
  have hk : recL[k]? = some (recD i) := by unfold recL; rw [List.getElem?_map, h1]; rfl
  have hf := find_distinct names_ok hk
  rw [h2] at hf
  unfold defOf
  rw [recs_eq, hf]
  show (if (recD i).params.defaults.isEmpty = true then some (recD i, []) else none) = _
  rw [if_pos h3]
theorem fnAt_i {W : Gl} (H : Has W) (k i : Nat) {x : Str} {ps : List Str} {body : List Stmt} (e0 : defIdx[k]? = some i) (e1 : (recD i).name = x) (e1' : (recD i).params.defaults.isEmpty = true) (e2 : (recD i).body = body) (e3 : (recD i).scope = fS (stAt i))
    (e4 : ∀ pm cd doc vals, vals.length = ps.length → bindArgs (docDef (recD i).name (recD i).params (recD i).body (recD i).scope pm cd doc) ⟨vals, []⟩ = pure (ps.zip vals)) : FnAt W x ps body (fS (stAt i)) := by
  obtain ⟨a, o, pm, cd, doc, h1, h2, h3, h4⟩ := H.fn (def_at k i e0 e1 e1')
  exact ⟨a, o, _, h1, h2, h3, congrArg _ e2, e3, rfl, rfl, rfl, e1 ▸ h4, e4 pm cd doc⟩

section
variable {W : Gl} (H : Has W)
include H
theorem Has.val (k : Nat) {x : Str} {v : Option Value} (e1 : obsN[k]? = some x) (e2 : valV[k]? = some v) : W.mg x = v := by
  have h := congrArg (fun l => l[k]?) H.vals
  simp only [List.getElem?_map, e1, e2, Option.map_some] at h
  exact Option.some.inj h
theorem Has.obj (k : Nat) {a : Addr} {o : Obj} (e1 : obsA[k]? = some a) (e2 : (valO W.w.params)[k]? = some (some o)) : W.h₀.get? a = some o := by
  have h := congrArg (fun l => l[k]?) H.objs
  simp only [List.getElem?_map, e1, e2, Option.map_some] at h
  exact Option.some.inj h
theorem K_R0 : GlobC W "R0" (.tuple [.int 0, .int 1]) := ⟨_, H.val 1 rfl rfl, .tup (fun h => h) (H.obj 4 rfl rfl) (.cons (.int _ _) (.cons (.int _ _) .nil))⟩
theorem K_R1 : GlobC W "R1" (.tuple [.int 1, .int 1]) := ⟨_, H.val 2 rfl rfl, .tup (fun h => h) (H.obj 5 rfl rfl) (.cons (.int _ _) (.cons (.int _ _) .nil))⟩
theorem K_HALF : GlobC W "HALF" (.tuple [.int 1, .int 2]) := ⟨_, H.val 3 rfl rfl, .tup (fun h => h) (H.obj 6 rfl rfl) (.cons (.int _ _) (.cons (.int _ _) .nil))⟩
theorem K_F0 : GlobC W "F0" (.tuple [.list [], .list [.tuple [.int 1, .int 1]]]) := ⟨_, H.val 4 rfl rfl, .tup (fun h => h) (H.obj 9 rfl rfl) (.cons (.lst (fun h => h) (H.obj 7 rfl rfl) .nil) (.cons (.lst (fun h => h) (H.obj 8 rfl rfl) (.cons (.tup (fun h => h) (H.obj 5 rfl rfl) (.cons (.int _ _) (.cons (.int _ _) .nil))) .nil)) .nil))⟩
theorem K_MOST_DIVIDED : GlobC W "MOST_DIVIDED" (.int 10000000000) := ⟨_, H.val 5 rfl rfl, .int _ _⟩
theorem K_MOST_WALKED : GlobC W "MOST_WALKED" (.int 1000) := ⟨_, H.val 6 rfl rfl, .int _ _⟩
theorem K_MOST_TOLD : GlobC W "MOST_TOLD" (.int 40) := ⟨_, H.val 7 rfl rfl, .int _ _⟩
theorem K_MOST_NUMBERS : GlobC W "MOST_NUMBERS" (.int 10000000) := ⟨_, H.val 8 rfl rfl, .int _ _⟩
theorem K_MOST_WORK : GlobC W "MOST_WORK" (.int 1000000) := ⟨_, H.val 9 rfl rfl, .int _ _⟩
theorem K_MOST_DEGREE : GlobC W "MOST_DEGREE" (.int 200) := ⟨_, H.val 10 rfl rfl, .int _ _⟩
theorem Has.big : ∃ b, 1 < b ∧ W.h₀.get? b ≠ none := ⟨215, by decide, by rw [H.obj 4 (a := 215) rfl rfl]; simp⟩
theorem Has.noExc : W.mg "Exception" = none := H.val 11 rfl rfl
end
example {W : Gl} (H : Has W) : FnAt W "gcd" ["a", "b"] (fB (stAt 3)) (fS (stAt 3)) := fnAt_i H 0 3 (by decide) (by kernel_rfl) (by kernel_rfl) (by kernel_rfl) (by kernel_rfl) (fun _ _ _ => b2 fun _ _ => by kernel_rfl)
end Gos
end

section
open PySem PySem.W PyProof.Rows
set_option maxHeartbeats 4000000
namespace Gos
open PySem PySem.W Gos.Ob

noncomputable def Says (w : World) (h : Heap) : Prop := h.Ns mainGlobals (h.nsMap mainGlobals) ∧ obsN.map (h.nsMap mainGlobals) = valV ∧ obsA.map h.get? = valO w.params
theorem says_of (w : World) (s : Shared) (e : obs s = valA w) : Says w s.heap := by
  unfold obs valA at e
  simp only [Prod.mk.injEq] at e
  exact ⟨.of_isNs e.1, e.2⟩
theorem map_keep {α β : Type} {f g : α → Option β} (k : ∀ b o, f b = some o → g b = some o) : ∀ {l : List α} {r : List (Option β)}, (∀ x ∈ r, x ≠ none) → l.map f = r → l.map g = r
  | [], _, _, e => e
  | a :: l, [], _, e => by cases e
  | a :: l, x :: r, h, e => by
    simp only [List.map_cons, List.cons.injEq] at e ⊢
    refine ⟨?_, map_keep k (fun y hy => h y (.tail _ hy)) e.2⟩
    cases x with
    | none => exact absurd rfl (h none (.head _))
    | some o => exact k a o e.1
theorem says_keep (w : World) (h h' : Heap) (S : Says w h) (k : ∀ b o, h.get? b = some o → h'.get? b = some o) : Says w h' := by
  obtain ⟨a, b, c⟩ := S
  have e := ns_keep k a
  refine ⟨?_, ?_, map_keep k ?_ c⟩
  · rw [e]; exact a.keeps k
  · rw [e]; exact b
  · intro x hx
    simp only [valO, List.mem_cons, List.not_mem_nil, or_false] at hx
    rcases hx with rfl | rfl | rfl | rfl | rfl | rfl | rfl | rfl | rfl | rfl <;> exact Option.some_ne_none _
theorem defs_plain {x : Str} {d : DefRec} {kw : List (Str × Expr)} (e : defOf qv x = some (d, kw)) : d.params.defaults = [] ∧ kw = [] := by
  unfold defOf at e
  split at e
  · split at e
    · cases e; exact ⟨List.isEmpty_iff.mp (by assumption), rfl⟩
    · cases e
  · rw [no_wdefs] at e; cases e
noncomputable abbrev Wg (w : World) (h : Heap) (mg mb : Str → Option Value) : Gl := ⟨pw, w, h, mg, mb⟩
theorem has_of {R : WRecords} {XP : (Str → Option Value) → Heap → Prop} {w : World} {s₀ : Shared} {mg mb : Str → Option Value} {h : Heap} (G : Ground qv looseL R XP w s₀ mg mb h) (Y : Says w h) : Has (Wg w h mg mb) := by
  have eg : mg = h.nsMap mainGlobals := G.T.g.eq_nsMap
  have V : obsN.map mg = valV := by rw [eg]; exact Y.2.1
  refine { g := G.T.g, b := G.T.b, nolimit := G.T.nolimit, bl := G.T.builtins, miss := ?_, fn := ?_, vals := V, objs := Y.2.2 }
  · have at_ : ∀ (k : Nat) (x : Str), obsN[k]? = some x → valV[k]? = some none → mg x = none := fun k x e1 e2 => by
      have h := congrArg (fun l => l[k]?) V
      simp only [List.getElem?_map, e1, e2, Option.map_some] at h
      exact Option.some.inj h
    intro x hx
    simp only [bnames, List.mem_cons, List.not_mem_nil, or_false] at hx
    rcases hx with rfl | rfl | rfl | rfl | rfl | rfl | rfl | rfl | rfl | rfl | rfl | rfl
    · exact at_ 12 _ rfl rfl
    · exact at_ 13 _ rfl rfl
    · exact at_ 14 _ rfl rfl
    · exact at_ 15 _ rfl rfl
    · exact at_ 16 _ rfl rfl
    · exact at_ 17 _ rfl rfl
    · exact at_ 18 _ rfl rfl
    · exact at_ 19 _ rfl rfl
    · exact at_ 20 _ rfl rfl
    · exact at_ 21 _ rfl rfl
    · exact at_ 22 _ rfl rfl
    · exact at_ 23 _ rfl rfl
  · intro x d e
    obtain ⟨a, o, pm, cd, doc, dV, kV, h1, h2, h3, h4, h5⟩ := G.fn e
    have e1 : dV = .none := h5.none (defs_plain e).1
    have e2 : kV = .none := h5.kw.elim (·.2) fun y => absurd rfl y.1
    subst e1; subst e2
    exact ⟨a, o, pm, cd, doc, h1, h2, h3, h4⟩
end Gos
end

section
open PySem PySem.W PyProof.Rows
set_option maxHeartbeats 0
lay_quick PySem.Program.tablesWhole
namespace Gos
open PySem PySem.W
noncomputable def lawOf (p : Program) : OpenLaw := { prog := p, name := "law", about := ["parted"], foot := 4, most := some 63, bound := none, writes := false }
noncomputable def saidB (p : Program) : Bool := (lawOf p).wellSaid
noncomputable def looksB (p : Program) : Bool := looksOpen p
noncomputable def tabB (p : Program) : Bool := p.tablesWhole
noncomputable def resB (p : Program) : Bool := namesResolve p
noncomputable def unreadB (n : Str) (p : Program) : Bool := !readsOut p p.main.body n
noncomputable def roadB (p : Program) : Bool := noRoadLSs { strict := !(importedModules p.main.body).all cThrough.contains, foot := none, bare := [] } p.main.body
noncomputable def attrB (p : Program) : Bool := namesMeet p p.main.body fun _ n => attrL n
theorem saidB_e : saidB = saidB := rfl
theorem looksB_e : looksB = looksB := rfl
theorem tabB_e : tabB = tabB := rfl
theorem resB_e : resB = resB := rfl
theorem unreadB_e : unreadB = unreadB := rfl
theorem roadB_e : roadB = roadB := rfl
theorem attrB_e : attrB = attrB := rfl
name_quick qSaid for Gos.saidB by Gos.saidB_e
name_quick qLooks for Gos.looksB by Gos.looksB_e
name_quick qTab for Gos.tabB by Gos.tabB_e
name_quick qRes for Gos.resB by Gos.resB_e
name_quick qUnread for Gos.unreadB by Gos.unreadB_e
name_quick qRoad for Gos.roadB by Gos.roadB_e
name_quick qAttr for Gos.attrB by Gos.attrB_e
theorem and_ok {a b : Bool} (h1 : a = true) (h2 : b = true) : (a && b) = true := by rw [h1, h2]; rfl
theorem not_ok {a : Bool} (h1 : (!a) = true) : a = false := by cases a <;> first | rfl | cases h1
theorem tab_q : PySem.W.Fast.qTab PySem.Challenge.pw_rh0046_01 = true := by kernel_rfl
theorem res_q : PySem.W.Fast.qRes PySem.Challenge.pw_rh0046_01 = true := by kernel_rfl
theorem un_vars : PySem.W.Fast.qUnread "vars" PySem.Challenge.pw_rh0046_01 = true := by kernel_rfl
theorem un_dir : PySem.W.Fast.qUnread "dir" PySem.Challenge.pw_rh0046_01 = true := by kernel_rfl
theorem un_locals : PySem.W.Fast.qUnread "locals" PySem.Challenge.pw_rh0046_01 = true := by kernel_rfl
theorem road_q : PySem.W.Fast.qRoad PySem.Challenge.pw_rh0046_01 = true := by kernel_rfl
theorem attr_q : PySem.W.Fast.qAttr PySem.Challenge.pw_rh0046_01 = true := by kernel_rfl
theorem tab_ok : PySem.Challenge.pw_rh0046_01.tablesWhole = true := (congrArg (fun f => f PySem.Challenge.pw_rh0046_01) PySem.W.Fast.qTab_eq).trans tab_q
theorem unread {n : Str} {p : Program} (h : PySem.W.Fast.qUnread n p = true) : readsOut p p.main.body n = false := not_ok ((congrArg (fun f => f n p) PySem.W.Fast.qUnread_eq).trans h)
theorem bare_nil {p : Program} (h1 : PySem.W.Fast.qUnread "vars" p = true) (h2 : PySem.W.Fast.qUnread "dir" p = true) (h3 : PySem.W.Fast.qUnread "locals" p = true) : (["vars", "dir", "locals"] : List Str).filter (readsOut p p.main.body) = [] := by
  rw [List.filter_cons, unread h1, List.filter_cons, unread h2, List.filter_cons, unread h3, List.filter_nil]
  rfl
theorem res_ok : namesResolve PySem.Challenge.pw_rh0046_01 = true := (congrArg (fun f => f PySem.Challenge.pw_rh0046_01) PySem.W.Fast.qRes_eq).trans res_q
theorem road_ok : roadB PySem.Challenge.pw_rh0046_01 = true := (congrArg (fun f => f PySem.Challenge.pw_rh0046_01) PySem.W.Fast.qRoad_eq).trans road_q
theorem attr_ok : attrB PySem.Challenge.pw_rh0046_01 = true := (congrArg (fun f => f PySem.Challenge.pw_rh0046_01) PySem.W.Fast.qAttr_eq).trans attr_q
theorem looks_ok : looksOpen PySem.Challenge.pw_rh0046_01 = true := by
  unfold looksOpen
  rw [bare_nil un_vars un_dir un_locals]
  refine and_ok (and_ok (and_ok (and_ok (and_ok ?_ ?_) res_ok) ?_) road_ok) attr_ok
  all_goals kernel_rfl
theorem looks_q : PySem.W.Fast.qLooks PySem.Challenge.pw_rh0046_01 = true := (congrArg (fun f => f PySem.Challenge.pw_rh0046_01) PySem.W.Fast.qLooks_eq).symm.trans looks_ok
theorem said_q : PySem.W.Fast.qSaid PySem.Challenge.pw_rh0046_01 = true := by
  delta PySem.W.Fast.qSaid PySem.W.Fast.tw14442311374658471826 PySem.W.Fast.tw9446332074065402090 PySem.W.Fast.tw17960256430627541270 PySem.W.Fast.tw2436336058641802641
  with_reducible refine and_ok (and_ok (and_ok (and_ok (and_ok (and_ok (and_ok (and_ok (and_ok (and_ok (and_ok (and_ok (and_ok (and_ok (and_ok (and_ok (and_ok (and_ok (and_ok (and_ok (and_ok (and_ok (and_ok (and_ok (and_ok (and_ok (and_ok (and_ok (and_ok (and_ok (and_ok (and_ok (and_ok (?_) ?_) ?_) ?_) ?_) ?_) ?_) ?_) ?_) ?_) ?_) ?_) ?_) ?_) ?_) ?_) ?_) ?_) ?_) ?_) ?_) ?_) ?_) ?_) ?_) ?_) ?_) ?_) ?_) ?_) ?_) ?_) ?_) ?_
  · exact looks_q
  all_goals kernel_rfl
theorem said_ok : saidB PySem.Challenge.pw_rh0046_01 = true := (congrArg (fun f => f PySem.Challenge.pw_rh0046_01) PySem.W.Fast.qSaid_eq).trans said_q
noncomputable def wellB (q p : Program) : Bool := chainsOk q && opensWell p && (frees (lawOf p).row.toRowW && (lawOf p).row.within.isEmpty)
theorem wellB_e : wellB = wellB := rfl
name_quick qWell for Gos.wellB by Gos.wellB_e
theorem well_ok : PySem.W.Fast.qWell qv PySem.Challenge.pw_rh0046_01 = true := by kernel_rfl
theorem wellB_well : wellB = PySem.W.Fast.qWell := PySem.W.Fast.qWell_eq
theorem law_eq : PySem.Challenge.rw_rh0046_01 = lawOf PySem.Challenge.pw_rh0046_01 := rfl
end Gos
end

section
open PySem PySem.W PyProof.Rows
namespace Gos
open PySem
section
variable {W : Gl} {n : Nat} {Γ : Lay} {G : List Str}
theorem io_enter (B : W.Fine) {ps : List Str} {body : List Stmt} {sc : Scope} {a : Addr} {o : Obj} {fd : FuncData} (m : Nat) (fs : FnS Γ G sc ps) (hp : ps ≠ [])
    (f2 : W.h₀.get? a = some o) (f3 : o.data = .func fd) (f4 : fd.body = .stmts body) (f5 : fd.scope = sc) (f6 : fd.globals = mainGlobals) (f7 : fd.builtins = builtinsNs) (f8 : fd.closure = []) (f9 : W.h₀.CodeRec fd.code fd.qualname)
    (f10 : ∀ vals, vals.length = ps.length → bindArgs fd ⟨vals, []⟩ = pure (ps.zip vals)) {A : Around} {s : Shared} {M : Addr → Prop} {b : Addr} {vs : List Value} {c : Nat} {xs : List D} {us : List Value} {ds : List D} {R : Result → Shared → Prop} (ok : Ok (n + 1) A) (base : Keep W.h₀ s.heap)
    (off : ∀ a, M a → W.h₀.get? a = Option.none) (dm : Dom s.heap M) (mb : M b) (gb : s.heap.get? b = some (lstO vs c)) (r : RelAll s.heap M vs xs) (ru : RelAll s.heap M us ds) (hl : ds.length = ps.length - 1)
    (q : ∀ env h1 tk1 M1 hb0, (∀ e, M e → M1 e) → (∀ e o, e ≠ b → s.heap.get? e = some o → hb0.get? e = some o) → Cx W n Γ G (A.deeper env) env hb0 (fun e => M e ∧ e ≠ b) → St Γ env hb0 (fun e => M e ∧ e ≠ b) (.own (.lst xs) :: start ds m) h1 M1 (fun _ => b) →
      wpAny (model W.prog W.w) (A.deeper env) (execs body env) (fun f s' => R (.ok (.ret (match f with | .ret v => v | _ => .none))) s')
        (fun e s' => wpAny (model W.prog W.w) (A.deeper env) (leaving env e) (fun _ s'' => R (.error e) s'') (fun e' s'' => R (.error e') s'') s') { s with heap := h1, toks := tk1 }) : codeAny (model W.prog W.w) A (.call (.ref a) ⟨.ref b :: us, []⟩) R s := by
  have hpl : 0 < ps.length := List.length_pos_iff.mpr hp
  have hlv : (Value.ref b :: us).length = ps.length := by rw [List.length_cons, ru.length, hl]; omega
  refine codeAny_call_cells ok.room (base _ _ f2) f3 (B.nolimit.keeps base) (f9.keeps base) f4 (f10 _ hlv) f8 (fun x hx => ?_) (fun s₁ X => ?_) (f5 ▸ fs.co) (f5 ▸ fs.gen) (f5 ▸ fs.kind)
  · obtain ⟨i, hi⟩ := List.getElem?_of_mem (List.of_mem_zip hx).1
    obtain ⟨k, h1, h2⟩ := fs.par i _ hi
    rw [f5]
    cases k with
    | no => exact absurd rfl h2
    | loc => exact .inl (fs.loc i _ h1)
    | cel => exact .inr ⟨fs.cel i _ h1, cellsFrom_some _ _ _ (.inl (fs.cel i _ h1))⟩
  · have hloc : (callEnvC fd s.heap.objs.size a).locals = s.heap.objs.size := rfl
    have hsc : (callEnvC fd s.heap.objs.size a).scope = sc := by rw [← f5]; rfl
    have hgl : (callEnvC fd s.heap.objs.size a).globals = mainGlobals := by rw [← f6]; rfl
    have hbl : (callEnvC fd s.heap.objs.size a).builtins = builtinsNs := by rw [← f7]; rfl
    have hco : ∀ x, sc.names.lookup x = some .cell → ((callEnvC fd s.heap.objs.size a).cells.lookup x).isSome = true := fun x hx => by
      rw [← f5] at hx
      exact cellsFrom_some _ _ _ (.inl hx)
    generalize callEnvC fd s.heap.objs.size a = env at *
    have hko : ∀ x, env.kindOf x = sc.names.lookup x := fun x => by rw [← hsc]; rfl
    obtain ⟨h1, tk1, rfl⟩ := X.toInCall.same
    have k1 : Keep s.heap h1 := X.toInCall.keep
    have hns := X.toInCall.ns
    have hm := hns.eq_nsMap
    have hL0 : s.heap.get? env.locals = none := by rw [hloc]; exact get_size _
    have hC0 : ∀ x c, env.cells.lookup x = some c → s.heap.get? c = none := fun x c e => by
      have := X.above x c (mem_of_lookup e)
      rw [hloc] at this
      cases g : s.heap.get? c with
      | none => rfl
      | some o => exact absurd (Heap.lt_size g) (Nat.not_lt.mpr (Nat.le_of_lt this))
    have esx : EnvS Γ G env := ⟨by rw [hsc]; exact fs.kind, hgl, hbl, fun i x e => by rw [hko]; exact fs.loc i x e, fun i x e => by rw [hko]; exact fs.cel i x e, fun x e => by rw [hko]; exact fs.gl x e,
      fun x y c e e' => name_of_addr X.apart (mem_of_lookup e) (mem_of_lookup e'), fs.nd, fs.ndG, fs.one⟩
    let M1 : Addr → Prop := fun b => M b ∨ b = env.locals ∨ ∃ x, env.cells.lookup x = some b
    have nw : ∀ b, M1 b → M b ∨ s.heap.get? b = none := fun b mb => by
      rcases mb with x | rfl | ⟨x, e⟩
      · exact .inl x
      · exact .inr hL0
      · exact .inr (hC0 x b e)
    have dm1 : ∀ b, M1 b → h1.get? b ≠ none := fun b mb => by
      rcases mb with x | rfl | ⟨x, e⟩
      · cases g : s.heap.get? b with
        | none => exact absurd g (dm b x)
        | some o => rw [k1 b o g]; simp
      · obtain ⟨o, _, _, g, _⟩ := hns
        exact dom_some g
      · obtain ⟨o, g, _⟩ := X.cell x b e
        exact dom_some g
    have kT : Trees s.heap M h1 M1 := (Trees.more nw).trans (Trees.keep k1)
    have hLb : env.locals ≠ b := fun e => by rw [e, gb] at hL0; cases hL0
    obtain ⟨k0, hx0, hk0⟩ := fs.par 0 ps[0] (List.getElem?_eq_getElem hpl)
    -- the value of slot i
    have slotv : ∀ (i : Nat) x k ov, Γ[i]? = some (x, k) → k ≠ .no → (∀ v, ps[i]? = some x → (Value.ref b :: us)[i]? = some v → ov = some v) → SV h1 M1 b (sget (.own (.lst xs) :: start ds m) i) ov := fun i x k ov hx hk hv => by
      cases i with
      | zero =>
        rw [hx0] at hx; cases hx
        exact ⟨hv _ (List.getElem?_eq_getElem hpl) rfl, .inl mb, vs, c, k1 _ _ gb, r.to kT⟩
      | succ i =>
        show SV h1 M1 b (sget (start ds m) i) ov
        rcases sget_start (rfl : sget (start ds m) i = _) with ⟨d, e1, e2⟩ | e2
        · rw [e2]
          obtain ⟨v, hv', rv⟩ := ru.get e1
          have hi : i + 1 < ps.length := by have := (List.getElem?_eq_some_iff.mp e1).1; omega
          obtain ⟨k', h2, _⟩ := fs.par (i + 1) ps[i + 1] (List.getElem?_eq_getElem hi)
          rw [hx] at h2; cases h2
          exact ⟨v, hv v (List.getElem?_eq_getElem hi) (by simpa using hv'), rv.to kT⟩
        · rw [e2]; trivial
    have ownI : ∀ i p, sget (.own (.lst xs) :: start ds m) i = .own p → i = 0 ∧ p = .lst xs := fun i p e => by
      cases i with
      | zero => cases e; exact ⟨rfl, rfl⟩
      | succ i => rcases sget_start (show sget (start ds m) i = .own p from e) with ⟨d, _, e2⟩ | e2 <;> cases e2
    have eo : EnvOk Γ env (.own (.lst xs) :: start ds m) h1 M1 (fun _ => b) := by
      refine ⟨hm ▸ hns, .inr (.inl rfl), dm1, fun i x hx => ?_, fun i x hx => ?_, fun i j p q h1 h2 _ => by rw [(ownI i p h1).1, (ownI j q h2).1], fun i p _ => .inl mb, fun i p _ => hLb⟩
      · refine slotv i x _ _ hx (by decide) fun v e1 e2 => ?_
        rw [← hm]
        exact bindL_zip (esx.loc i x hx) fs.nodup e1 e2
      · obtain ⟨c', hc⟩ := Option.isSome_iff_exists.mp (hco x (fs.cel i x hx))
        exact ⟨c', _, hc, X.cell x c' hc, .inr (.inr ⟨x, hc⟩), slotv i x _ _ hx (by decide) fun v e1 e2 => bindC_zip (esx.cel i x hx) fs.nodup e1 e2⟩
    let hb0 : PH := ⟨fun e => if e = b then none else s.heap.get? e⟩
    have hbn : ∀ e, s.heap.get? e = none → hb0.get? e = none := fun e he => by
      show (if e = b then none else s.heap.get? e) = none
      split
      · rfl
      · exact he
    have cx : Cx W n Γ G (A.deeper env) env hb0 (fun e => M e ∧ e ≠ b) := ⟨ok.deeper env, esx, fun e o he => by
        have : e ≠ b := fun x => by rw [x, off b mb] at he; cases he
        show (if e = b then none else s.heap.get? e) = some o
        rw [if_neg this]; exact base e o he, fun e me => off e me.1, fun e me => by
        show (if e = b then none else s.heap.get? e) ≠ none
        rw [if_neg me.2]; exact dm e me.1, hbn _ hL0, fun i x c' _ e => hbn _ (hC0 x c' e)⟩
    have st0 : St Γ env hb0 (fun e => M e ∧ e ≠ b) (.own (.lst xs) :: start ds m) h1 M1 (fun _ => b) := ⟨eo, fun e o he => by
        have he : (if e = b then none else s.heap.get? e) = some o := he
        split at he
        · cases he
        · exact k1 e o he, fun e me => .inl me.1, fun e me => by
        by_cases x : e = b
        · refine .inr ?_
          show (if e = b then none else s.heap.get? e) = none
          rw [if_pos x]
        · exact (nw e me).imp (fun y => ⟨y, x⟩) (hbn e), fun i p _ => by
        show (if b = b then none else s.heap.get? b) = none
        rw [if_pos rfl]⟩
    refine q env h1 tk1 M1 hb0 (fun e me => .inl me) (fun e o ne he => ?_) cx st0
    show (if e = b then none else s.heap.get? e) = some o
    rw [if_neg ne]; exact he
end
end Gos
end

section
open PySem PySem.W PyProof.Rows
namespace Gos
open PySem
section
variable {W : Gl} {n : Nat} {Γ : Lay} {G : List Str}

/-- a def that turns its first argument and gives a value back -/
noncomputable def ContractIR (W : Gl) (x : Str) (r : Nat) (F : List D → List D → Option (D × List D)) : Prop :=
  ∃ a o fd, W.mg x = some (.ref a) ∧ W.h₀.get? a = some o ∧ o.data = .func fd ∧
    ∀ A s M b vs c xs us ds d ys (Q : Value → Shared → Prop) E, Ok r A → Keep W.h₀ s.heap → (∀ a, M a → W.h₀.get? a = Option.none) → Dom s.heap M → M b → s.heap.get? b = some (lstO vs c) → RelAll s.heap M vs xs → RelAll s.heap M us ds → F xs ds = some (d, ys) →
      (∀ v h' tk vs' c', (∀ e o, e ≠ b → s.heap.get? e = some o → h'.get? e = some o) → h'.get? b = some (lstO vs' c') → RelAll h' M vs' ys → Rel h' M v d → Q v { s with heap := h', toks := tk }) →
      wpAny (model W.prog W.w) A (call (.ref a) (.ref b :: us) []) Q E s
noncomputable def runIR (g : List S → Option (List S)) (f : List S → Option D) (k m : Nat) (xs ds : List D) : Option (D × List D) := if Nat.beq ds.length k then (match g (.own (.lst xs) :: start ds m) with
  | some ρ' => (match sget ρ' 0, f ρ' with | .own (.lst ys), some d => some (d, ys) | _, _ => none)
  | none => none) else none

theorem ContractIR.of (B : W.Fine) {x : Str} {ps : List Str} {st : Stmt} {c e1 e2 : Expr} {p1 p2 p3 : Pos} {sc : Scope} {g : List S → Option (List S)} {ft : List S → Option Bool} {f1 f2 : List S → Option D} (m : Nat) (F : FnAt W x ps [st, .If c [.Return (some e1) p1] [] p2, .Return (some e2) p3] sc) (fs : FnS Γ G sc ps) (hp : ps ≠ [])
    (hb : DenK W n Γ G st g) (ht : DenT W n Γ G c ft) (h1 : DenE W n Γ G e1 f1) (h2 : DenE W n Γ G e2 f2) : ContractIR W x (n + 1) (runIR g (fun ρ => ite1 (ft ρ) (f1 ρ) (f2 ρ)) (ps.length - 1) m) := by
  obtain ⟨a, o, fd, g1, g2, g3, g4, g5, g6, g7, g8, g9, g10⟩ := F.ex
  refine ⟨a, o, fd, g1, g2, g3, fun A s M b vs c xs us ds d ys Q E ok base off dm mb gb r ru e q => ?_⟩
  unfold runIR at e
  split at e
  · rename_i hl
    have hl : ds.length = ps.length - 1 := Nat.eq_of_beq_eq_true hl
    split at e
    · rename_i ρ' hg
      split at e
      · rename_i ys' d' hys hf
        cases e
        have hpl : 0 < ps.length := List.length_pos_iff.mpr hp
        obtain ⟨k0, hx0, hk0⟩ := fs.par 0 ps[0] (List.getElem?_eq_getElem hpl)
        refine wpAny_call (io_enter B m fs hp g2 g3 g4 g5 g6 g7 g8 g9 g10 ok base off dm mb gb r ru hl fun env hh1 tk1 M1 hb0 hM hk cx st0 => ?_)
        refine wpAny_execs_cons (hb (A.deeper env) env { s with heap := hh1, toks := tk1 } hb0 _ M1 _ (fun _ => b) ρ' _ _ cx st0 hg fun hh2 tk2 st2 t2 => ?_)
        obtain ⟨_, vs', c', g', r'⟩ := t2.env.ownAt hys hx0 hk0
        have fin : ∀ v h3 tk3, Keep hh2 h3 → Rel h3 M1 v d → Q v { s with heap := h3, toks := tk3 } := fun v h3 tk3 k3 rv =>
          q v h3 tk3 vs' c' (fun e o ne he => k3 _ _ (t2.kb e o (hk e o ne he))) (k3 _ _ g') ((r'.keep k3).less fun e me => hM e me) (rv.less fun e me => hM e me)
        cases hc : ft ρ' with
        | none => simp [hc, ite1] at hf
        | some c =>
          refine wpAny_execs_cons (wpAny_If (ht _ env { s with heap := hh2, toks := tk2 } M1 ρ' _ c _ _ (cx.pre t2) hc fun h3 tk3 k3 => ?_))
          cases c with
          | true =>
            have hf : f1 ρ' = some d := by simpa [hc, ite1] using hf
            refine wpAny_execs_cons (wpAny_Return_some (h1 _ env { s with heap := h3, toks := tk3 } M1 ρ' _ d _ _ (cx.pre (t2.keep k3)) hf fun v h4 tk4 k4 r4 => ?_))
            exact fin v h4 tk4 (k3.trans k4) r4
          | false =>
            have hf : f2 ρ' = some d := by simpa [hc, ite1] using hf
            refine wpAny_execs_nil (wpAny_execs_cons (wpAny_Return_some (h2 _ env { s with heap := h3, toks := tk3 } M1 ρ' _ d _ _ (cx.pre (t2.keep k3)) hf fun v h4 tk4 k4 r4 => ?_)))
            exact fin v h4 tk4 (k3.trans k4) r4
      · cases e
    · cases e
  · cases e

/-- the stores behind a pair that was worked out on the stack -/
theorem tupS_fin {k : Nat} {ts vs : List Expr} {is : List Nat} {names : List Str} (N : Names Γ k ts is) (hw : swS Γ ts is vs = some (some names)) {A : Around} {env : Env} {s : Shared} {hb : PH} {M₀ M : Addr → Prop} {ρ ρ' : List S} {oa : Nat → Addr} {Q : Flow → Shared → Prop} {E : Value → Shared → Prop}
    (cx : Cx W n Γ G A env hb M₀) (t : St Γ env hb M₀ ρ s.heap M oa) {us : List Value} {its : List It} (pt : Pt s.heap s.heap M us its) (dis : Dis M us) (e3 : uits is.reverse its.reverse ρ = some ρ')
    (q : ∀ h' tk M' oa', Step M s.heap M' h' → St Γ env hb M₀ ρ' h' M' oa' → Q .next { s with heap := h', toks := tk }) :
    us.length ≤ sizeLine ∧ wpAny (model W.prog W.w) A (unpackItems (.ref s.heap.objs.size) names.length none) (fun items s₂ => wpAny (model W.prog W.w) A (assignInOrder (names.reverse.map fun n => bindName env n) items.reverse) (fun _ => Q .next) E s₂) E
      { s with heap := s.heap.push { cls := .type "tuple", data := .seq us.toArray } } := by
  obtain ⟨hn1, hn2, hn3⟩ := swS_some hw
  have hlen : us.length = ts.length := by
    rw [pt.length, N.len]
    have := uits_len e3
    simpa using this.symm
  refine ⟨by rw [hlen, sizeLine_eq]; omega, ?_⟩
  have g := Heap.get?_push_size s.heap (o := tupO us 0) rfl
  have kp : Keep s.heap (s.heap.push (tupO us 0)) := Keep.push _ _
  rw [show names.length = us.toArray.size by rw [hn2, List.size_toArray, hlen]]
  refine wpAny_unpackItems_tuple cx.ok.hd (isTup_of g) fun h2 k2 => ?_
  have kk : Keep s.heap h2 := kp.trans (extBut_size k2)
  have t2 := t.keep kk
  have ap : ∀ j es, sget ρ j = .own es → ∀ u ∈ us.reverse, u ≠ .ref (oa j) := fun j es hj u hu => pt.notin (t.env.own j es hj) (t.env.dom _ (t.env.own j es hj)) u (List.mem_reverse.mp hu)
  have hst : Stores Γ env (names.reverse.map fun n => bindName env n) is.reverse := by
    rw [List.map_reverse, hn1]
    exact (locNames_stores N (by rw [← hn1]; exact hn2)).rev
  refine storeIts hst (s := { s with heap := h2 }) cx t2 t.kb (t.env.dom _ t.env.ML) (fun c x kd i hx sc => t.env.dom _ (slotM t.env hx sc)) (pt.rev.keep kk) (by simpa using dis.rev) ap e3 fun h3 tk3 oa3 st3 t3 => ?_
  exact q h3 tk3 M oa3 ((Step.of_keep kk).trans st3) t3
end
end Gos
end

section
open PySem PySem.W PyProof.Rows
namespace Gos
open PySem
section
variable {W : Gl} {n : Nat} {Γ : Lay} {G : List Str}

/-- f(own, ..): the own list is turned, a value comes back -/
theorem callIR (B : W.Ok) {x f : Str} {kd : VK} {r : Nat} {F : List D → List D → Option (D × List D)} {es : List Expr} {fs : List S → Option (List D)} {p q cp : Pos} (C : ContractIR W f r F) (ha : DenA W n Γ G es fs) {i : Nat} (hx : Γ[i]? = some (x, kd)) (hk : kd ≠ .no) (hf : f ∈ G) (hr : r + 1 ≤ n)
    {A : Around} {env : Env} {s : Shared} {hb : PH} {M₀ M : Addr → Prop} {ρ : List S} {oa : Nat → Addr} {Q : Value → Shared → Prop} {E : Value → Shared → Prop} {xs ds ys : List D} {d : D} (cx : Cx W n Γ G A env hb M₀) (t : St Γ env hb M₀ ρ s.heap M oa) (h1 : eown i ρ = some xs) (h2 : fs ρ = some ds) (h3 : F xs ds = some (d, ys))
    (k : ∀ v h' tk, Step M s.heap M h' → St Γ env hb M₀ (sset ρ i (.own (.lst ys))) h' M oa → Rel h' M v d → Q v { s with heap := h', toks := tk }) :
    wpAny (model W.prog W.w) A (eval (.Call (.Name f p) (.Name x q :: es) [] cp) env) Q E s := by
  have P := cx.pre t
  obtain ⟨a, o, fd, c1, c2, c3, c4⟩ := C
  refine wpAny_Call_NameR (nameGlob B P hf c1 ?_)
  refine PyProof.Rows.callWith_def c3 (PyProof.Rows.args_cons (ownName P i hx hk h1 fun vs c m g rr => ha A env s M ρ oa ds _ E cp P h2 fun us h1' tk1 k1 r1 => ⟨k1 _ _ (P.base _ _ c2), ?_⟩)) (starEach_cons rfl)
  refine c4 A { s with heap := h1', toks := tk1 } M (oa i) vs c xs us ds d ys _ E (cx.ok.less (by omega)) (P.base.trans k1) P.off (t.keep k1).env.dom m (k1 _ _ g) (rr.keep k1) r1 h3 fun v h' tk vs' c' kp g' r' rv => ?_
  have st : Step M h1' M h' := ⟨fun b o nb e => kp b o (fun x => nb (x ▸ m)) e, fun _ x => .inl x⟩
  exact k v h' tk ((Step.of_keep k1).trans st) ((t.keep k1).setOwnX (eown_some h1) ⟨vs, c, k1 _ _ g, rr.keep k1⟩ kp ⟨vs', c', g', r'⟩) rv

noncomputable def law2F (i : Nat) (is : List Nat) (F : List D → List D → Option (D × List D)) (fa : List S → Option (List D)) (fl : List S → Option (List D)) (fb : List S → Option (List D)) (ρ : List S) : Option (List S) :=
  match eown i ρ, fa ρ with
  | some xs, some das => (match F xs das with
    | some (d1, ys) => (match fl (sset ρ i (.own (.lst ys))), fb (sset ρ i (.own (.lst ys))) with
      | some ls, some dbs => (match eown i (sset ρ i (.own (.lst ys))), F ys dbs with
        | some _, some (dk, zs) => (match didxO ls dk with
          | some d2 => uits is [.e d2, .e d1] (sset (sset ρ i (.own (.lst ys))) i (.own (.lst zs)))
          | none => none)
        | _, _ => none)
      | _, _ => none)
    | none => none)
  | _, _ => none
theorem law2F_some {i : Nat} {is : List Nat} {F : List D → List D → Option (D × List D)} {fa fl fb : List S → Option (List D)} {ρ ρ' : List S} (h : law2F i is F fa fl fb ρ = some ρ') : ∃ xs das d1 ys ls dbs dk zs d2 u, eown i ρ = some xs ∧ fa ρ = some das ∧ F xs das = some (d1, ys) ∧ fl (sset ρ i (.own (.lst ys))) = some ls ∧
    fb (sset ρ i (.own (.lst ys))) = some dbs ∧ eown i (sset ρ i (.own (.lst ys))) = some u ∧ F ys dbs = some (dk, zs) ∧ didxO ls dk = some d2 ∧ uits is [.e d2, .e d1] (sset (sset ρ i (.own (.lst ys))) i (.own (.lst zs))) = some ρ' := by
  unfold law2F at h
  split at h
  · split at h
    · split at h
      · split at h
        · split at h
          · exact ⟨_, _, _, _, _, _, _, _, _, _, by assumption, by assumption, by assumption, by assumption, by assumption, by assumption, by assumption, by assumption, h⟩
          · cases h
        · cases h
      · cases h
    · cases h
  · cases h

theorem DenO.law2 (B : W.Ok) {k x1 x2 : Nat} {x f : Str} {kd : VK} {r : Nat} {F : List D → List D → Option (D × List D)} {ea eb : List Expr} {el : List Expr} {fa fb fl : List S → Option (List D)} {p p2 pos pa1 pa2 cpa pb1 pb2 cpb lp sp : Pos} {ts : List Expr} {is : List Nat} {names : List Str} (i : Nat) (C : ContractIR W f r F) (ha : DenA W n Γ G ea fa) (hl : DenF W n Γ G (.List el lp) fl) (hb' : DenA W n Γ G eb fb)
    (N : Names Γ k ts is) (hw : swS Γ ts is [.Call (.Name f pa1) (.Name x pa2 :: ea) [] cpa, .Subscript (.List el lp) (.Call (.Name f pb1) (.Name x pb2 :: eb) [] cpb) sp] = some (some names)) (hx : Γ[i]? = some (x, kd)) (hk : kd ≠ .no) (hf : f ∈ G) (hr : r + 1 ≤ n) :
    DenO W n Γ G (.Assign [.Tuple ts x1 p] (.Tuple [.Call (.Name f pa1) (.Name x pa2 :: ea) [] cpa, .Subscript (.List el lp) (.Call (.Name f pb1) (.Name x pb2 :: eb) [] cpb) sp] x2 p2) pos) (fun ρ => nextR (law2F i is.reverse F fa fl fb ρ)) := fun A env s hb M₀ M ρ oa fl' Q E cx t e q => by
  obtain ⟨ρ', e0, rfl⟩ := nextR_some e
  obtain ⟨xs, das, d1, ys, ls, dbs, dk, zs, d2, u, g1, g2, g3, g4, g5, g6, g7, g8, g9⟩ := law2F_some e0
  have hw1 := swappedStores_eq (x1 := x1) (x2 := x2) (p := p) (p2 := p2) cx.es N hw
  have hst : ∀ a b : Expr, isStarred a = false → isStarred b = false → starEach [a, b] env = [(false, eval a env), (false, eval b env)] := fun a b ha hb => by rw [starEach_cons ha, starEach_cons hb]; rfl
  refine Assign_Tuple_swapped ?_ rfl hw1
  refine wpAny_Tuple (wpAny_items_cons (callIR B C ha hx hk hf hr cx t g1 g2 g3 fun v1 h1 tk1 st1 t1 r1 => ?_) (starEach_cons rfl))
  have g6' : u = ys := by
    have := eown_some g6
    rcases @sget_sset_self (.own (.lst ys)) ρ i with h | h
    · rw [h] at this; cases this; rfl
    · rw [h] at this; cases this
  subst g6'
  refine wpAny_items_cons (Subscript_ (hl A env { s with heap := h1, toks := tk1 } M _ oa ls _ E (cx.pre t1) g4 fun a vs c h2 tk2 k2 ea ga rl => ?_)) (starEach_cons rfl)
  have t2 := t1.keep k2
  refine callIR B C hb' hx hk hf hr cx t2 g6 g5 g7 fun v2 h3 tk3 st3 t3 r3 => ?_
  have nM : ¬ M a := fun m => t1.env.dom a m ea
  have ga3 := st3.keep a _ nM ga
  have rl3 : RelAll h3 M vs ls := st3.relAll (rl.less fun b m => .inr m)
  have r13 : Rel h3 M v1 d1 := st3.rel (r1.keep k2)
  unfold didxO at g8
  split at g8
  · cases r3 with
    | int j tj =>
    refine tail_any ⟨_, ga3, rfl⟩ list_getitem_lookup (list_item ga3 rl3 g8 fun v h4 tk4 k4 r4 => ?_) (subscripted_plain (by rfl))
    refine wpAny_items_nil ?_
    have t4 := t3.keep k4
    refine tupS_fin (s := { s with heap := h4, toks := tk4 }) N hw cx t4 (its := [.e d1, .e d2]) (.e (r13.keep k4) (.e r4 .nil)) (List.pairwise_cons.mpr ⟨fun u hu a na e => absurd na ((r13.keep k4).notM e), List.pairwise_cons.mpr ⟨fun u hu => (by cases hu), List.Pairwise.nil⟩⟩) (by simpa using g9) fun h' tk M' oa' st' t' => ?_
    exact q h' tk M' oa' (((st1.trans (Step.of_keep k2)).trans (st3.trans (Step.of_keep k4))).trans st') t'
  · cases g8
end
end Gos
end

section
open PySem PySem.W PyProof.Rows
set_option maxHeartbeats 2000000
namespace Gos
open PySem

/- zeros_on -/
noncomputable abbrev L_zeros_on : Lay := [("differences", .loc), ("last", .loc), ("row", .loc), ("found", .loc), ("place", .loc), ("at", .loc)]
noncomputable abbrev G_zeros_on : List Str := ["len", "list", "range"]
noncomputable def p_zeros_on : { g : List S → Option Fl // ∀ W : Gl, Has W → Bx (DenS W 3 L_zeros_on G_zeros_on (fB (stAt 85)) g) } := ⟨_, fun W H => 
    (BS.cons (BO.tupS (k := 6) (names := ["row", "found"]) (Names.cons 2 rfl (by decide) (by decide) (Names.cons 3 rfl (by decide) (by decide) Names.nil)) (BIts.consF (BF.callB H.toFine "list" sem_list (.inr ⟨_, rfl⟩) (by decide +kernel) (by decide +kernel) boot_list (BA.cons (BE.var 0) BA.nil) (by decide +kernel) (by decide) rfl) (BIts.consF (BF.list BA.nil) BIts.nil)))
    (BS.cons (BO.for (k := 6) (BI.rng1 H.toFine (BA.cons (BE.bin sem_add (BE.var 1) (BE.int _)) BA.nil)) (BTg.name 4) (BS.cons (BO.if (BT.cmp sem_eq (BE.oidx 2 (BE.int _)) (BE.int _)) (BS.one (BO.append 3 (BE.var 4))) BS.nil)
    (BS.one (BO.for (k := 6) (BI.rng1 H.toFine (BA.cons (BE.bin sem_sub (BE.olen H.toFine 2) (BE.int _)) BA.nil)) (BTg.name 5) (BS.one (BO.augItem 2 sem_iadd (BE.oidx 2 (BE.bin sem_add (BE.var 5) (BE.int _))) (BE.var 5)))))))
    (BS.freeze 3 (BS.one (BO.ret (BE.var 3))))))⟩
theorem at_zeros_on {W : Gl} (H : Has W) : FnAt W "zeros_on" ["differences", "last"] (fB (stAt 85)) (fS (stAt 85)) :=
  fnAt_i H 66 85 (by decide +kernel) (by kernel_rfl) (by kernel_rfl) (by kernel_rfl) (by kernel_rfl) (fun _ _ _ => b2 fun _ _ => by kernel_rfl)
noncomputable def F_zeros_on : List D → Option D := runF p_zeros_on.1 2 4
theorem C_zeros_on {W : Gl} (H : Has W) : Contract W "zeros_on" 4 F_zeros_on := Contract.of H.toFine 4 (at_zeros_on H) (FnS.of (by decide +kernel)) (p_zeros_on.2 W H).h

/- rcompare -/
noncomputable abbrev L_rcompare : Lay := [("a", .loc), ("b", .loc), ("off", .loc)]
noncomputable abbrev G_rcompare : List Str := []
noncomputable def p_rcompare : { g : List S → Option Fl // ∀ W : Gl, Has W → Bx (DenS W 3 L_rcompare G_rcompare (fB (stAt 44)) g) } := ⟨_, fun W H => 
    (BS.cons (BO.assign 2 (BE.bin sem_sub (BE.bin sem_mul (BE.idx (BE.var 0) (BE.int _)) (BE.idx (BE.var 1) (BE.int _))) (BE.bin sem_mul (BE.idx (BE.var 1) (BE.int _)) (BE.idx (BE.var 0) (BE.int _)))))
    (BS.one (BO.ret (BE.bin sem_sub (BE.cmp sem_gt (BE.var 2) (BE.int _)) (BE.cmp sem_lt (BE.var 2) (BE.int _))))))⟩
theorem at_rcompare {W : Gl} (H : Has W) : FnAt W "rcompare" ["a", "b"] (fB (stAt 44)) (fS (stAt 44)) :=
  fnAt_i H 35 44 (by decide +kernel) (by kernel_rfl) (by kernel_rfl) (by kernel_rfl) (by kernel_rfl) (fun _ _ _ => b2 fun _ _ => by kernel_rfl)
noncomputable def F_rcompare : List D → Option D := runF p_rcompare.1 2 1
theorem C_rcompare {W : Gl} (H : Has W) : Contract W "rcompare" 4 F_rcompare := Contract.of H.toFine 1 (at_rcompare H) (FnS.of (by decide +kernel)) (p_rcompare.2 W H).h

/- sorted_intervals -/
noncomputable abbrev L_sorted_intervals : Lay := [("pieces", .loc), ("found", .loc), ("piece", .loc), ("at", .loc)]
noncomputable abbrev G_sorted_intervals : List Str := ["len", "rcompare"]
noncomputable def p_sorted_intervals : { g : List S → Option Fl // ∀ W : Gl, Has W → Bx (DenS W 5 L_sorted_intervals G_sorted_intervals (fB (stAt 72)) g) } := ⟨_, fun W H => 
    (BS.cons (BO.assignF 1 (BF.list BA.nil))
    (BS.cons (BO.for (k := 4) (BI.seq (BE.var 0)) (BTg.name 2) (BS.cons (BO.assign 3 (BE.int _))
    (BS.cons (BO.while 100000 (BT.and (BT.cmp sem_lt (BE.var 3) (BE.olen H.toFine 1)) (BT.cmp sem_lt (BE.call H.toOk (C_rcompare H) (BA.cons (BE.idx (BE.oidx 1 (BE.var 3)) (BE.int _)) (BA.cons (BE.idx (BE.var 2) (BE.int _)) BA.nil))) (BE.int _))) (BS.one (BO.aug 3 sem_iadd (BE.int _))))
    (BS.one (BO.insert 1 (BE.var 3) (BE.var 2))))))
    (BS.freeze 1 (BS.one (BO.ret (BE.var 1))))))⟩
theorem at_sorted_intervals {W : Gl} (H : Has W) : FnAt W "sorted_intervals" ["pieces"] (fB (stAt 72)) (fS (stAt 72)) :=
  fnAt_i H 58 72 (by decide +kernel) (by kernel_rfl) (by kernel_rfl) (by kernel_rfl) (by kernel_rfl) (fun _ _ _ => b1 fun _ => by kernel_rfl)
noncomputable def F_sorted_intervals : List D → Option D := runF p_sorted_intervals.1 1 3
theorem C_sorted_intervals {W : Gl} (H : Has W) : Contract W "sorted_intervals" 6 F_sorted_intervals := Contract.of H.toFine 3 (at_sorted_intervals H) (FnS.of (by decide +kernel)) (p_sorted_intervals.2 W H).h

/- gcd -/
noncomputable abbrev L_gcd : Lay := [("a", .loc), ("b", .loc)]
noncomputable abbrev G_gcd : List Str := ["abs"]
noncomputable def p_gcd : { g : List S → Option Fl // ∀ W : Gl, Has W → Bx (DenS W 3 L_gcd G_gcd (fB (stAt 3)) g) } := ⟨_, fun W H => 
    (BS.cons (BO.tupS (k := 2) (names := ["a", "b"]) (Names.cons 0 rfl (by decide) (by decide) (Names.cons 1 rfl (by decide) (by decide) Names.nil)) (BIts.consE (BE.callB H.toFine "abs" sem_abs (.inl ⟨_, rfl⟩) (by decide +kernel) (by decide +kernel) boot_abs (BA.cons (BE.var 0) BA.nil) (by decide +kernel) (by decide) rfl) (BIts.consE (BE.callB H.toFine "abs" sem_abs (.inl ⟨_, rfl⟩) (by decide +kernel) (by decide +kernel) boot_abs (BA.cons (BE.var 1) BA.nil) (by decide +kernel) (by decide) rfl) BIts.nil)))
    (BS.cons (BO.while 100000 (BT.cmp sem_ne (BE.var 1) (BE.int _)) (BS.one (BO.tupS (k := 2) (names := ["a", "b"]) (Names.cons 0 rfl (by decide) (by decide) (Names.cons 1 rfl (by decide) (by decide) Names.nil)) (BIts.consE (BE.var 1) (BIts.consE (BE.bin sem_mod (BE.var 0) (BE.var 1)) BIts.nil)))))
    (BS.one (BO.ret (BE.var 0)))))⟩
theorem at_gcd {W : Gl} (H : Has W) : FnAt W "gcd" ["a", "b"] (fB (stAt 3)) (fS (stAt 3)) :=
  fnAt_i H 0 3 (by decide +kernel) (by kernel_rfl) (by kernel_rfl) (by kernel_rfl) (by kernel_rfl) (fun _ _ _ => b2 fun _ _ => by kernel_rfl)
noncomputable def F_gcd0 : List D → Option D := runF p_gcd.1 2 0
theorem C_gcd0 {W : Gl} (H : Has W) : Contract W "gcd" 4 F_gcd0 := Contract.of H.toFine 0 (at_gcd H) (FnS.of (by decide +kernel)) (p_gcd.2 W H).h
/- the loop of gcd, worked out: it ends within twice the binary digits of the second number -/
noncomputable def gcdT (ρ : List S) : Option Bool := bind2 cne (evar 1 ρ) (some (.int 0))
noncomputable def gcdB (ρ : List S) : Option Fl :=
  bind1 (fun its => nextR (uits [0, 1].reverse its.reverse ρ)) (bind2 consE (evar 1 ρ) (bind2 consE (bind2 dmod (evar 0 ρ) (evar 1 ρ)) (some [])))
noncomputable abbrev gcdS (a b : Nat) : List S := [.fr (.int a), .fr (.int b)]
theorem gcd_end (k a : Nat) : whileL gcdT gcdB (k + 1) (gcdS a 0) = some (.next (gcdS a 0)) := rfl
theorem gcd_step (k a b : Nat) (hb : b ≠ 0) : whileL gcdT gcdB (k + 1) (gcdS a b) = whileL gcdT gcdB k (gcdS b (a % b)) := by
  have h0 : ieq (b : Int) 0 = false := by rw [ieq_eq, decide_eq_false_iff_not]; omega
  have h1 : dmod (.int (a : Int)) (.int (b : Int)) = some (.int ((a % b : Nat) : Int)) := by
    unfold dmod
    simp only [h0, Bool.not_false, if_true, fI_eq]
    rw [Int.fmod_eq_emod_of_nonneg _ (Int.natCast_nonneg b), Int.natCast_emod]
  have h2 : gcdT (gcdS a b) = some true := by
    show some (!ieq (b : Int) 0) = _
    rw [h0]; rfl
  have h3 : gcdB (gcdS a b) = some (.next (gcdS b (a % b))) := by
    show bind1 (fun its => nextR (uits [0, 1].reverse its.reverse (gcdS a b))) (bind2 consE (some (.int (b : Int))) (bind2 consE (dmod (.int (a : Int)) (.int (b : Int))) (some []))) = _
    rw [h1]; rfl
  show ite1 (gcdT (gcdS a b)) _ _ = _
  rw [h2]
  show bind1 _ (gcdB (gcdS a b)) = _
  rw [h3]
  rfl
theorem gcd_loop : ∀ (m k a b : Nat), b < 2 ^ m → 2 * m + 1 ≤ k → whileL gcdT gcdB k (gcdS a b) = some (.next (gcdS (Nat.gcd a b) 0))
  | 0, k, a, b, hb, hk => by
    obtain rfl : b = 0 := by simpa using hb
    obtain ⟨k, rfl⟩ : ∃ j, k = j + 1 := ⟨k - 1, by omega⟩
    rw [gcd_end, Nat.gcd_zero_right]
  | m + 1, k, a, b, hb, hk => by
    obtain ⟨k, rfl⟩ : ∃ j, k = j + 2 := ⟨k - 2, by omega⟩
    by_cases h0 : b = 0
    · subst h0
      rw [gcd_end, Nat.gcd_zero_right]
    · rw [gcd_step _ _ _ h0]
      have e1 : Nat.gcd a b = Nat.gcd b (a % b) := by rw [Nat.gcd_comm a b, Nat.gcd_rec b a, Nat.gcd_comm]
      by_cases h1 : a % b = 0
      · rw [e1, h1, gcd_end, Nat.gcd_zero_right]
      · rw [gcd_step _ _ _ h1]
        have e2 : Nat.gcd b (a % b) = Nat.gcd (a % b) (b % (a % b)) := by rw [Nat.gcd_comm b, Nat.gcd_rec (a % b) b, Nat.gcd_comm]
        have l1 : a % b < b := Nat.mod_lt _ (Nat.pos_of_ne_zero h0)
        have l2 : b % (a % b) < a % b := Nat.mod_lt _ (Nat.pos_of_ne_zero h1)
        have l3 : b % (a % b) ≤ b - a % b := by rw [Nat.mod_eq_sub_mod (Nat.le_of_lt l1)]; exact Nat.mod_le _ _
        rw [Nat.pow_succ] at hb
        rw [gcd_loop m k _ _ (by omega) (by omega), e1, e2]
noncomputable def gcdN (a b : Int) : Option D := Bool.rec (motive := fun _ => Option D) none (fI (Int.ofNat (Nat.gcd a.natAbs b.natAbs))) (smallI b)
noncomputable def F_gcd : List D → Option D
  | [.int a, .int b] => gcdN a b
  | _ => none
theorem gcd_native (a b : Int) (h : smallI b = true) : F_gcd0 [.int a, .int b] = some (.int (Nat.gcd a.natAbs b.natAbs : Nat)) := by
  have hb : b.natAbs < 2 ^ 8000 := Nat.le_of_ble_eq_true h
  have hl := gcd_loop 8000 100000 a.natAbs b.natAbs hb (by decide)
  have hp : p_gcd.1 (start [.int a, .int b] 0) = some (.ret (.int (Nat.gcd a.natAbs b.natAbs : Nat))) := by
    show bind1 (seqF fun ρ => bind1 (seqF fun ρ => retE (evar 0 ρ)) (whileL gcdT gcdB 100000 ρ)) (some (.next (gcdS a.natAbs b.natAbs))) = _
    show bind1 (seqF fun ρ => retE (evar 0 ρ)) (whileL gcdT gcdB 100000 (gcdS a.natAbs b.natAbs)) = _
    rw [hl]
    rfl
  show (match p_gcd.1 (start [.int a, .int b] 0) with
    | some (.ret d) => some d
    | some (.next _) => some .none
    | _ => none) = _
  rw [hp]
theorem C_gcd {W : Gl} (H : Has W) : Contract W "gcd" 4 F_gcd := (C_gcd0 H).weak fun ds d e => by
  unfold F_gcd at e
  split at e
  · rename_i a b
    unfold gcdN at e
    cases h : smallI b with
    | false => rw [h] at e; cases e
    | true =>
      rw [h] at e
      rw [gcd_native a b h]
      have e : fI (Int.ofNat (Nat.gcd a.natAbs b.natAbs)) = some d := e
      rw [fI_eq] at e
      exact e
  · cases e

/- zscale -/
noncomputable abbrev L_zscale : Lay := [("p", .loc), ("k", .cel)]
noncomputable abbrev G_zscale : List Str := []
noncomputable abbrev L1_zscale : Lay := [("number", .loc), ("p", .no), ("k", .cel)]
noncomputable abbrev G1_zscale : List Str := []
noncomputable def p_zscale : { g : List S → Option Fl // ∀ W : Gl, Has W → Bx (DenS W 3 L_zscale G_zscale (fB (stAt 15)) g) } := ⟨_, fun W H => 
    (BS.one (BO.ret (BE.ite (BT.cmp sem_ne (BE.var 1) (BE.int _)) (BE.fresh (BF.comp (Γ' := L1_zscale) (G' := G1_zscale) (tl := 1) (CompS.of (by decide +kernel)) (BI.seq (BE.var 0)) (BTg.name 0) BIfs.nil (BE.bin sem_mul (BE.var 0) (BE.var 2)))) (BE.fresh (BF.list BA.nil)))))⟩
theorem at_zscale {W : Gl} (H : Has W) : FnAt W "zscale" ["p", "k"] (fB (stAt 15)) (fS (stAt 15)) :=
  fnAt_i H 11 15 (by decide +kernel) (by kernel_rfl) (by kernel_rfl) (by kernel_rfl) (by kernel_rfl) (fun _ _ _ => b2 fun _ _ => by kernel_rfl)
noncomputable def F_zscale : List D → Option D := runF p_zscale.1 2 0
theorem C_zscale {W : Gl} (H : Has W) : Contract W "zscale" 4 F_zscale := Contract.of H.toFine 0 (at_zscale H) (FnS.of (by decide +kernel)) (p_zscale.2 W H).h

/- gcd_all -/
noncomputable abbrev L_gcd_all : Lay := [("numbers", .loc), ("found", .loc), ("number", .loc)]
noncomputable abbrev G_gcd_all : List Str := ["gcd"]
noncomputable def p_gcd_all : { g : List S → Option Fl // ∀ W : Gl, Has W → Bx (DenS W 5 L_gcd_all G_gcd_all (fB (stAt 4)) g) } := ⟨_, fun W H => 
    (BS.cons (BO.assign 1 (BE.int _))
    (BS.cons (BO.for (k := 3) (BI.seq (BE.var 0)) (BTg.name 2) (BS.one (BO.assign 1 (BE.call H.toOk (C_gcd H) (BA.cons (BE.var 1) (BA.cons (BE.var 2) BA.nil))))))
    (BS.one (BO.ret (BE.var 1)))))⟩
theorem at_gcd_all {W : Gl} (H : Has W) : FnAt W "gcd_all" ["numbers"] (fB (stAt 4)) (fS (stAt 4)) :=
  fnAt_i H 1 4 (by decide +kernel) (by kernel_rfl) (by kernel_rfl) (by kernel_rfl) (by kernel_rfl) (fun _ _ _ => b1 fun _ => by kernel_rfl)
noncomputable def F_gcd_all : List D → Option D := runF p_gcd_all.1 1 2
theorem C_gcd_all {W : Gl} (H : Has W) : Contract W "gcd_all" 6 F_gcd_all := Contract.of H.toFine 2 (at_gcd_all H) (FnS.of (by decide +kernel)) (p_gcd_all.2 W H).h

/- zcontent -/
noncomputable abbrev L_zcontent : Lay := [("p", .loc)]
noncomputable abbrev G_zcontent : List Str := ["gcd_all"]
noncomputable def p_zcontent : { g : List S → Option Fl // ∀ W : Gl, Has W → Bx (DenS W 7 L_zcontent G_zcontent (fB (stAt 18)) g) } := ⟨_, fun W H => 
    (BS.one (BO.ret (BE.call H.toOk (C_gcd_all H) (BA.cons (BE.var 0) BA.nil))))⟩
theorem at_zcontent {W : Gl} (H : Has W) : FnAt W "zcontent" ["p"] (fB (stAt 18)) (fS (stAt 18)) :=
  fnAt_i H 14 18 (by decide +kernel) (by kernel_rfl) (by kernel_rfl) (by kernel_rfl) (by kernel_rfl) (fun _ _ _ => b1 fun _ => by kernel_rfl)
noncomputable def F_zcontent : List D → Option D := runF p_zcontent.1 1 0
theorem C_zcontent {W : Gl} (H : Has W) : Contract W "zcontent" 8 F_zcontent := Contract.of H.toFine 0 (at_zcontent H) (FnS.of (by decide +kernel)) (p_zcontent.2 W H).h

/- check_bottom -/
noncomputable abbrev L_check_bottom : Lay := [("p", .loc)]
noncomputable abbrev G_check_bottom : List Str := ["CasFail", "len"]
noncomputable def p_check_bottom : { g : List S → Option Fl // ∀ W : Gl, Has W → Bx (DenS W 3 L_check_bottom G_check_bottom (fB (stAt 25)) g) } := ⟨_, fun W H => 
    (BS.one (BO.if (BT.cmp sem_eq (BE.len H.toFine (BA.cons (BE.var 0) BA.nil)) (BE.int _)) BS.stuck BS.nil))⟩
theorem at_check_bottom {W : Gl} (H : Has W) : FnAt W "check_bottom" ["p"] (fB (stAt 25)) (fS (stAt 25)) :=
  fnAt_i H 20 25 (by decide +kernel) (by kernel_rfl) (by kernel_rfl) (by kernel_rfl) (by kernel_rfl) (fun _ _ _ => b1 fun _ => by kernel_rfl)
noncomputable def F_check_bottom : List D → Option D := runF p_check_bottom.1 1 0
theorem C_check_bottom {W : Gl} (H : Has W) : Contract W "check_bottom" 4 F_check_bottom := Contract.of H.toFine 0 (at_check_bottom H) (FnS.of (by decide +kernel)) (p_check_bottom.2 W H).h

/- zlead -/
noncomputable abbrev L_zlead : Lay := [("p", .loc)]
noncomputable abbrev G_zlead : List Str := ["len"]
noncomputable def p_zlead : { g : List S → Option Fl // ∀ W : Gl, Has W → Bx (DenS W 3 L_zlead G_zlead (fB (stAt 11)) g) } := ⟨_, fun W H => 
    (BS.one (BO.ret (BE.ite (BT.cmp sem_gt (BE.len H.toFine (BA.cons (BE.var 0) BA.nil)) (BE.int _)) (BE.idx (BE.var 0) (BE.un sem_neg (BE.int _))) (BE.int _))))⟩
theorem at_zlead {W : Gl} (H : Has W) : FnAt W "zlead" ["p"] (fB (stAt 11)) (fS (stAt 11)) :=
  fnAt_i H 7 11 (by decide +kernel) (by kernel_rfl) (by kernel_rfl) (by kernel_rfl) (by kernel_rfl) (fun _ _ _ => b1 fun _ => by kernel_rfl)
noncomputable def F_zlead : List D → Option D := runF p_zlead.1 1 0
theorem C_zlead {W : Gl} (H : Has W) : Contract W "zlead" 4 F_zlead := Contract.of H.toFine 0 (at_zlead H) (FnS.of (by decide +kernel)) (p_zlead.2 W H).h

/- ztrim -/
noncomputable abbrev L_ztrim : Lay := [("row", .loc), ("size", .loc)]
noncomputable abbrev G_ztrim : List Str := ["len", "list"]
noncomputable def p_ztrim : { g : List S → Option Fl // ∀ W : Gl, Has W → Bx (DenS W 3 L_ztrim G_ztrim (fB (stAt 9)) g) } := ⟨_, fun W H => 
    (BS.cons (BO.assign 1 (BE.len H.toFine (BA.cons (BE.var 0) BA.nil)))
    (BS.cons (BO.while 100000 (BT.and (BT.cmp sem_gt (BE.var 1) (BE.int _)) (BT.cmp sem_eq (BE.idx (BE.var 0) (BE.bin sem_sub (BE.var 1) (BE.int _))) (BE.int _))) (BS.one (BO.aug 1 sem_isub (BE.int _))))
    (BS.one (BO.ret (BE.fresh (BF.callB H.toFine "list" sem_list (.inr ⟨_, rfl⟩) (by decide +kernel) (by decide +kernel) boot_list (BA.cons (BE.fresh (BF.sliceU (BE.var 0) (BE.var 1))) BA.nil) (by decide +kernel) (by decide) rfl))))))⟩
theorem at_ztrim {W : Gl} (H : Has W) : FnAt W "ztrim" ["row"] (fB (stAt 9)) (fS (stAt 9)) :=
  fnAt_i H 5 9 (by decide +kernel) (by kernel_rfl) (by kernel_rfl) (by kernel_rfl) (by kernel_rfl) (fun _ _ _ => b1 fun _ => by kernel_rfl)
noncomputable def F_ztrim : List D → Option D := runF p_ztrim.1 1 1
theorem C_ztrim {W : Gl} (H : Has W) : Contract W "ztrim" 4 F_ztrim := Contract.of H.toFine 1 (at_ztrim H) (FnS.of (by decide +kernel)) (p_ztrim.2 W H).h

/- zadd -/
noncomputable abbrev L_zadd : Lay := [("a", .cel), ("b", .cel), ("size", .loc)]
noncomputable abbrev G_zadd : List Str := ["len", "max", "range", "ztrim"]
noncomputable abbrev L1_zadd : Lay := [("at", .loc), ("a", .cel), ("b", .cel), ("size", .no)]
noncomputable abbrev G1_zadd : List Str := ["len"]
noncomputable def p_zadd : { g : List S → Option Fl // ∀ W : Gl, Has W → Bx (DenS W 5 L_zadd G_zadd (fB (stAt 12)) g) } := ⟨_, fun W H => 
    (BS.cons (BO.assign 2 (BE.callB H.toFine "max" sem_max2 (.inl ⟨_, rfl⟩) (by decide +kernel) (by decide +kernel) boot_max (BA.cons (BE.len H.toFine (BA.cons (BE.var 0) BA.nil)) (BA.cons (BE.len H.toFine (BA.cons (BE.var 1) BA.nil)) BA.nil)) (by decide +kernel) (by decide) rfl))
    (BS.one (BO.ret (BE.call H.toOk (C_ztrim H) (BA.cons (BE.fresh (BF.comp (Γ' := L1_zadd) (G' := G1_zadd) (tl := 1) (CompS.of (by decide +kernel)) (BI.rng1 H.toFine (BA.cons (BE.var 2) BA.nil)) (BTg.name 0) BIfs.nil (BE.bin sem_add (BE.ite (BT.cmp sem_lt (BE.var 0) (BE.len H.toFine (BA.cons (BE.var 1) BA.nil))) (BE.idx (BE.var 1) (BE.var 0)) (BE.int _)) (BE.ite (BT.cmp sem_lt (BE.var 0) (BE.len H.toFine (BA.cons (BE.var 2) BA.nil))) (BE.idx (BE.var 2) (BE.var 0)) (BE.int _))))) BA.nil)))))⟩
theorem at_zadd {W : Gl} (H : Has W) : FnAt W "zadd" ["a", "b"] (fB (stAt 12)) (fS (stAt 12)) :=
  fnAt_i H 8 12 (by decide +kernel) (by kernel_rfl) (by kernel_rfl) (by kernel_rfl) (by kernel_rfl) (fun _ _ _ => b2 fun _ _ => by kernel_rfl)
noncomputable def F_zadd : List D → Option D := runF p_zadd.1 2 1
theorem C_zadd {W : Gl} (H : Has W) : Contract W "zadd" 6 F_zadd := Contract.of H.toFine 1 (at_zadd H) (FnS.of (by decide +kernel)) (p_zadd.2 W H).h

/- zneg -/
noncomputable abbrev L_zneg : Lay := [("p", .loc)]
noncomputable abbrev G_zneg : List Str := []
noncomputable abbrev L1_zneg : Lay := [("number", .loc), ("p", .no)]
noncomputable abbrev G1_zneg : List Str := []
noncomputable def p_zneg : { g : List S → Option Fl // ∀ W : Gl, Has W → Bx (DenS W 3 L_zneg G_zneg (fB (stAt 13)) g) } := ⟨_, fun W H => 
    (BS.one (BO.ret (BE.fresh (BF.comp (Γ' := L1_zneg) (G' := G1_zneg) (tl := 1) (CompS.of (by decide +kernel)) (BI.seq (BE.var 0)) (BTg.name 0) BIfs.nil (BE.un sem_neg (BE.var 0))))))⟩
theorem at_zneg {W : Gl} (H : Has W) : FnAt W "zneg" ["p"] (fB (stAt 13)) (fS (stAt 13)) :=
  fnAt_i H 9 13 (by decide +kernel) (by kernel_rfl) (by kernel_rfl) (by kernel_rfl) (by kernel_rfl) (fun _ _ _ => b1 fun _ => by kernel_rfl)
noncomputable def F_zneg : List D → Option D := runF p_zneg.1 1 0
theorem C_zneg {W : Gl} (H : Has W) : Contract W "zneg" 4 F_zneg := Contract.of H.toFine 0 (at_zneg H) (FnS.of (by decide +kernel)) (p_zneg.2 W H).h

/- zsub -/
noncomputable abbrev L_zsub : Lay := [("a", .loc), ("b", .loc)]
noncomputable abbrev G_zsub : List Str := ["zadd", "zneg"]
noncomputable def p_zsub : { g : List S → Option Fl // ∀ W : Gl, Has W → Bx (DenS W 7 L_zsub G_zsub (fB (stAt 14)) g) } := ⟨_, fun W H => 
    (BS.one (BO.ret (BE.call H.toOk (C_zadd H) (BA.cons (BE.var 0) (BA.cons (BE.call H.toOk (C_zneg H) (BA.cons (BE.var 1) BA.nil)) BA.nil)))))⟩
theorem at_zsub {W : Gl} (H : Has W) : FnAt W "zsub" ["a", "b"] (fB (stAt 14)) (fS (stAt 14)) :=
  fnAt_i H 10 14 (by decide +kernel) (by kernel_rfl) (by kernel_rfl) (by kernel_rfl) (by kernel_rfl) (fun _ _ _ => b2 fun _ _ => by kernel_rfl)
noncomputable def F_zsub : List D → Option D := runF p_zsub.1 2 0
theorem C_zsub {W : Gl} (H : Has W) : Contract W "zsub" 8 F_zsub := Contract.of H.toFine 0 (at_zsub H) (FnS.of (by decide +kernel)) (p_zsub.2 W H).h

/- zraise -/
noncomputable abbrev L_zraise : Lay := [("p", .loc), ("many", .loc)]
noncomputable abbrev G_zraise : List Str := ["len", "list"]
noncomputable def p_zraise : { g : List S → Option Fl // ∀ W : Gl, Has W → Bx (DenS W 3 L_zraise G_zraise (fB (stAt 16)) g) } := ⟨_, fun W H => 
    (BS.one (BO.ret (BE.ite (BT.cmp sem_gt (BE.len H.toFine (BA.cons (BE.var 0) BA.nil)) (BE.int _)) (BE.fresh (BF.bin sem_addF (BE.fresh (BF.bin sem_mulF (BE.fresh (BF.list (BA.cons (BE.int _) BA.nil))) (BE.var 1))) (BE.fresh (BF.callB H.toFine "list" sem_list (.inr ⟨_, rfl⟩) (by decide +kernel) (by decide +kernel) boot_list (BA.cons (BE.var 0) BA.nil) (by decide +kernel) (by decide) rfl)))) (BE.fresh (BF.list BA.nil)))))⟩
theorem at_zraise {W : Gl} (H : Has W) : FnAt W "zraise" ["p", "many"] (fB (stAt 16)) (fS (stAt 16)) :=
  fnAt_i H 12 16 (by decide +kernel) (by kernel_rfl) (by kernel_rfl) (by kernel_rfl) (by kernel_rfl) (fun _ _ _ => b2 fun _ _ => by kernel_rfl)
noncomputable def F_zraise : List D → Option D := runF p_zraise.1 2 0
theorem C_zraise {W : Gl} (H : Has W) : Contract W "zraise" 4 F_zraise := Contract.of H.toFine 0 (at_zraise H) (FnS.of (by decide +kernel)) (p_zraise.2 W H).h

/- pseudo -/
noncomputable abbrev L_pseudo : Lay := [("a", .loc), ("b", .loc), ("many", .loc), ("rest", .loc), ("found", .loc), ("left", .loc), ("first", .loc), ("number", .loc), ("power", .loc), ("more", .loc)]
noncomputable abbrev G_pseudo : List Str := ["check_bottom", "len", "list", "max", "zlead", "zraise", "zscale", "zsub"]
noncomputable def p_pseudo : { g : List S → Option Fl // ∀ W : Gl, Has W → Bx (DenS W 9 L_pseudo G_pseudo (fB (stAt 27)) g) } := ⟨_, fun W H => 
    (BS.cons (BO.drop (BE.call H.toOk (C_check_bottom H) (BA.cons (BE.var 1) BA.nil)))
    (BS.cons (BO.assign 2 (BE.callB H.toFine "max" sem_max2 (.inl ⟨_, rfl⟩) (by decide +kernel) (by decide +kernel) boot_max (BA.cons (BE.int _) (BA.cons (BE.bin sem_add (BE.bin sem_sub (BE.len H.toFine (BA.cons (BE.var 0) BA.nil)) (BE.len H.toFine (BA.cons (BE.var 1) BA.nil))) (BE.int _)) BA.nil)) (by decide +kernel) (by decide) rfl))
    (BS.cons (BO.tupP (k := 10) (Names.cons 3 rfl (by decide) (by decide) (Names.cons 4 rfl (by decide) (by decide) (Names.cons 5 rfl (by decide) (by decide) (Names.cons 6 rfl (by decide) (by decide) Names.nil)))) (BIts.consE (BE.fresh (BF.callB H.toFine "list" sem_list (.inr ⟨_, rfl⟩) (by decide +kernel) (by decide +kernel) boot_list (BA.cons (BE.var 0) BA.nil) (by decide +kernel) (by decide) rfl)) (BIts.consE (BE.fresh (BF.list BA.nil)) (BIts.consE (BE.var 2) (BIts.consE (BE.call H.toOk (C_zlead H) (BA.cons (BE.var 1) BA.nil)) BIts.nil)))))
    (BS.cons (BO.while 100000 (BT.cmp sem_ge (BE.len H.toFine (BA.cons (BE.var 3) BA.nil)) (BE.len H.toFine (BA.cons (BE.var 1) BA.nil))) (BS.cons (BO.tupS (k := 10) (names := ["number", "power"]) (Names.cons 7 rfl (by decide) (by decide) (Names.cons 8 rfl (by decide) (by decide) Names.nil)) (BIts.consE (BE.idx (BE.var 3) (BE.un sem_neg (BE.int _))) (BIts.consE (BE.bin sem_sub (BE.len H.toFine (BA.cons (BE.var 3) BA.nil)) (BE.len H.toFine (BA.cons (BE.var 1) BA.nil))) BIts.nil)))
    (BS.cons (BO.assign 4 (BE.call H.toOk (C_zsub H) (BA.cons (BE.call H.toOk (C_zscale H) (BA.cons (BE.var 4) (BA.cons (BE.var 6) BA.nil))) (BA.cons (BE.call H.toOk (C_zraise H) (BA.cons (BE.fresh (BF.list (BA.cons (BE.un sem_neg (BE.var 7)) BA.nil))) (BA.cons (BE.var 8) BA.nil))) BA.nil))))
    (BS.cons (BO.assign 3 (BE.call H.toOk (C_zsub H) (BA.cons (BE.call H.toOk (C_zscale H) (BA.cons (BE.var 3) (BA.cons (BE.var 6) BA.nil))) (BA.cons (BE.call H.toOk (C_zraise H) (BA.cons (BE.call H.toOk (C_zscale H) (BA.cons (BE.var 1) (BA.cons (BE.var 7) BA.nil))) (BA.cons (BE.var 8) BA.nil))) BA.nil))))
    (BS.one (BO.aug 5 sem_isub (BE.int _)))))))
    (BS.cons (BO.assign 9 (BE.bin sem_pow (BE.var 6) (BE.var 5)))
    (BS.one (BO.ret (BE.tup (BA.cons (BE.call H.toOk (C_zscale H) (BA.cons (BE.var 4) (BA.cons (BE.var 9) BA.nil))) (BA.cons (BE.call H.toOk (C_zscale H) (BA.cons (BE.var 3) (BA.cons (BE.var 9) BA.nil))) (BA.cons (BE.var 2) BA.nil)))))))))))⟩
theorem at_pseudo {W : Gl} (H : Has W) : FnAt W "pseudo" ["a", "b"] (fB (stAt 27)) (fS (stAt 27)) :=
  fnAt_i H 22 27 (by decide +kernel) (by kernel_rfl) (by kernel_rfl) (by kernel_rfl) (by kernel_rfl) (fun _ _ _ => b2 fun _ _ => by kernel_rfl)
noncomputable def F_pseudo : List D → Option D := runF p_pseudo.1 2 8
theorem C_pseudo {W : Gl} (H : Has W) : Contract W "pseudo" 10 F_pseudo := Contract.of H.toFine 8 (at_pseudo H) (FnS.of (by decide +kernel)) (p_pseudo.2 W H).h

/- zpseudo_rest -/
noncomputable abbrev L_zpseudo_rest : Lay := [("a", .loc), ("b", .loc)]
noncomputable abbrev G_zpseudo_rest : List Str := ["pseudo"]
noncomputable def p_zpseudo_rest : { g : List S → Option Fl // ∀ W : Gl, Has W → Bx (DenS W 11 L_zpseudo_rest G_zpseudo_rest (fB (stAt 28)) g) } := ⟨_, fun W H => 
    (BS.one (BO.ret (BE.idx (BE.call H.toOk (C_pseudo H) (BA.cons (BE.var 0) (BA.cons (BE.var 1) BA.nil))) (BE.int _))))⟩
theorem at_zpseudo_rest {W : Gl} (H : Has W) : FnAt W "zpseudo_rest" ["a", "b"] (fB (stAt 28)) (fS (stAt 28)) :=
  fnAt_i H 23 28 (by decide +kernel) (by kernel_rfl) (by kernel_rfl) (by kernel_rfl) (by kernel_rfl) (fun _ _ _ => b2 fun _ _ => by kernel_rfl)
noncomputable def F_zpseudo_rest : List D → Option D := runF p_zpseudo_rest.1 2 0
theorem C_zpseudo_rest {W : Gl} (H : Has W) : Contract W "zpseudo_rest" 12 F_zpseudo_rest := Contract.of H.toFine 0 (at_zpseudo_rest H) (FnS.of (by decide +kernel)) (p_zpseudo_rest.2 W H).h

/- next_height -/
noncomputable abbrev L_next_height : Lay := [("front", .loc), ("step", .loc), ("height", .loc)]
noncomputable abbrev G_next_height : List Str := []
noncomputable def p_next_height : { g : List S → Option Fl // ∀ W : Gl, Has W → Bx (DenS W 3 L_next_height G_next_height (fB (stAt 48)) g) } := ⟨_, fun W H => 
    (BS.cons (BO.if (BT.cmp sem_eq (BE.var 1) (BE.int _)) (BS.one (BO.ret (BE.var 2))) BS.nil)
    (BS.one (BO.ret (BE.bin sem_fdiv (BE.bin sem_pow (BE.var 0) (BE.var 1)) (BE.bin sem_pow (BE.var 2) (BE.bin sem_sub (BE.var 1) (BE.int _)))))))⟩
theorem at_next_height {W : Gl} (H : Has W) : FnAt W "next_height" ["front", "step", "height"] (fB (stAt 48)) (fS (stAt 48)) :=
  fnAt_i H 38 48 (by decide +kernel) (by kernel_rfl) (by kernel_rfl) (by kernel_rfl) (by kernel_rfl) (fun _ _ _ => b3 fun _ _ _ => by kernel_rfl)
noncomputable def F_next_height : List D → Option D := runF p_next_height.1 3 0
theorem C_next_height {W : Gl} (H : Has W) : Contract W "next_height" 4 F_next_height := Contract.of H.toFine 0 (at_next_height H) (FnS.of (by decide +kernel)) (p_next_height.2 W H).h

/- zdivided -/
noncomputable abbrev L_zdivided : Lay := [("p", .loc), ("k", .cel)]
noncomputable abbrev G_zdivided : List Str := []
noncomputable abbrev L1_zdivided : Lay := [("number", .loc), ("p", .no), ("k", .cel)]
noncomputable abbrev G1_zdivided : List Str := []
noncomputable def p_zdivided : { g : List S → Option Fl // ∀ W : Gl, Has W → Bx (DenS W 3 L_zdivided G_zdivided (fB (stAt 19)) g) } := ⟨_, fun W H => 
    (BS.one (BO.ret (BE.fresh (BF.comp (Γ' := L1_zdivided) (G' := G1_zdivided) (tl := 1) (CompS.of (by decide +kernel)) (BI.seq (BE.var 0)) (BTg.name 0) BIfs.nil (BE.bin sem_fdiv (BE.var 0) (BE.var 2))))))⟩
theorem at_zdivided {W : Gl} (H : Has W) : FnAt W "zdivided" ["p", "k"] (fB (stAt 19)) (fS (stAt 19)) :=
  fnAt_i H 15 19 (by decide +kernel) (by kernel_rfl) (by kernel_rfl) (by kernel_rfl) (by kernel_rfl) (fun _ _ _ => b2 fun _ _ => by kernel_rfl)
noncomputable def F_zdivided : List D → Option D := runF p_zdivided.1 2 0
theorem C_zdivided {W : Gl} (H : Has W) : Contract W "zdivided" 4 F_zdivided := Contract.of H.toFine 0 (at_zdivided H) (FnS.of (by decide +kernel)) (p_zdivided.2 W H).h

/- subresultants -/
noncomputable abbrev L_subresultants : Lay := [("a", .loc), ("b", .loc), ("row", .loc), ("front", .loc), ("height", .loc), ("step", .loc), ("rest", .loc)]
noncomputable abbrev G_subresultants : List Str := ["len", "list", "next_height", "zdivided", "zlead", "zpseudo_rest"]
noncomputable def p_subresultants : { g : List S → Option Fl // ∀ W : Gl, Has W → Bx (DenS W 13 L_subresultants G_subresultants (fB (stAt 49)) g) } := ⟨_, fun W H => 
    (BS.cons (BO.if (BT.cmp sem_lt (BE.len H.toFine (BA.cons (BE.var 0) BA.nil)) (BE.len H.toFine (BA.cons (BE.var 1) BA.nil))) (BS.one (BO.tupS (k := 7) (names := ["a", "b"]) (Names.cons 0 rfl (by decide) (by decide) (Names.cons 1 rfl (by decide) (by decide) Names.nil)) (BIts.consE (BE.var 1) (BIts.consE (BE.var 0) BIts.nil)))) BS.nil)
    (BS.cons (BO.tupS (k := 7) (names := ["row", "front", "height"]) (Names.cons 2 rfl (by decide) (by decide) (Names.cons 3 rfl (by decide) (by decide) (Names.cons 4 rfl (by decide) (by decide) Names.nil))) (BIts.consF (BF.list (BA.cons (BE.fresh (BF.callB H.toFine "list" sem_list (.inr ⟨_, rfl⟩) (by decide +kernel) (by decide +kernel) boot_list (BA.cons (BE.var 0) BA.nil) (by decide +kernel) (by decide) rfl)) (BA.cons (BE.fresh (BF.callB H.toFine "list" sem_list (.inr ⟨_, rfl⟩) (by decide +kernel) (by decide +kernel) boot_list (BA.cons (BE.var 1) BA.nil) (by decide +kernel) (by decide) rfl)) BA.nil))) (BIts.consE (BE.int _) (BIts.consE (BE.int _) BIts.nil))))
    (BS.cons (BO.while 100000 (BT.cmp sem_gt (BE.len H.toFine (BA.cons (BE.var 1) BA.nil)) (BE.int _)) (BS.cons (BO.assign 5 (BE.bin sem_sub (BE.len H.toFine (BA.cons (BE.var 0) BA.nil)) (BE.len H.toFine (BA.cons (BE.var 1) BA.nil))))
    (BS.cons (BO.assign 6 (BE.call H.toOk (C_zpseudo_rest H) (BA.cons (BE.var 0) (BA.cons (BE.var 1) BA.nil))))
    (BS.cons (BO.if (BT.cmp sem_eq (BE.len H.toFine (BA.cons (BE.var 6) BA.nil)) (BE.int _)) (BS.freeze 2 (BS.one (BO.ret (BE.var 2)))) BS.nil)
    (BS.cons (BO.tupS (k := 7) (names := ["a", "b"]) (Names.cons 0 rfl (by decide) (by decide) (Names.cons 1 rfl (by decide) (by decide) Names.nil)) (BIts.consE (BE.var 1) (BIts.consE (BE.call H.toOk (C_zdivided H) (BA.cons (BE.var 6) (BA.cons (BE.bin sem_mul (BE.var 3) (BE.bin sem_pow (BE.var 4) (BE.var 5))) BA.nil))) BIts.nil)))
    (BS.cons (BO.append 2 (BE.var 1))
    (BS.cons (BO.assign 3 (BE.call H.toOk (C_zlead H) (BA.cons (BE.var 0) BA.nil)))
    (BS.one (BO.assign 4 (BE.call H.toOk (C_next_height H) (BA.cons (BE.var 3) (BA.cons (BE.var 5) (BA.cons (BE.var 4) BA.nil)))))))))))))
    (BS.freeze 2 (BS.one (BO.ret (BE.var 2)))))))⟩
theorem at_subresultants {W : Gl} (H : Has W) : FnAt W "subresultants" ["a", "b"] (fB (stAt 49)) (fS (stAt 49)) :=
  fnAt_i H 39 49 (by decide +kernel) (by kernel_rfl) (by kernel_rfl) (by kernel_rfl) (by kernel_rfl) (fun _ _ _ => b2 fun _ _ => by kernel_rfl)
noncomputable def F_subresultants : List D → Option D := runF p_subresultants.1 2 5
theorem C_subresultants {W : Gl} (H : Has W) : Contract W "subresultants" 14 F_subresultants := Contract.of H.toFine 5 (at_subresultants H) (FnS.of (by decide +kernel)) (p_subresultants.2 W H).h

/- zprimitive -/
noncomputable abbrev L_zprimitive : Lay := [("p", .loc), ("content", .loc)]
noncomputable abbrev G_zprimitive : List Str := ["len", "zcontent", "zdivided"]
noncomputable def p_zprimitive : { g : List S → Option Fl // ∀ W : Gl, Has W → Bx (DenS W 9 L_zprimitive G_zprimitive (fB (stAt 20)) g) } := ⟨_, fun W H => 
    (BS.cons (BO.if (BT.cmp sem_eq (BE.len H.toFine (BA.cons (BE.var 0) BA.nil)) (BE.int _)) (BS.one (BO.ret (BE.fresh (BF.list BA.nil)))) BS.nil)
    (BS.cons (BO.assign 1 (BE.call H.toOk (C_zcontent H) (BA.cons (BE.var 0) BA.nil)))
    (BS.one (BO.ret (BE.call H.toOk (C_zdivided H) (BA.cons (BE.var 0) (BA.cons (BE.ite (BT.cmp sem_gt (BE.idx (BE.var 0) (BE.un sem_neg (BE.int _))) (BE.int _)) (BE.var 1) (BE.un sem_neg (BE.var 1))) BA.nil)))))))⟩
theorem at_zprimitive {W : Gl} (H : Has W) : FnAt W "zprimitive" ["p"] (fB (stAt 20)) (fS (stAt 20)) :=
  fnAt_i H 16 20 (by decide +kernel) (by kernel_rfl) (by kernel_rfl) (by kernel_rfl) (by kernel_rfl) (fun _ _ _ => b1 fun _ => by kernel_rfl)
noncomputable def F_zprimitive : List D → Option D := runF p_zprimitive.1 1 1
theorem C_zprimitive {W : Gl} (H : Has W) : Contract W "zprimitive" 10 F_zprimitive := Contract.of H.toFine 1 (at_zprimitive H) (FnS.of (by decide +kernel)) (p_zprimitive.2 W H).h

/- zgcd -/
noncomputable abbrev L_zgcd : Lay := [("a", .loc), ("b", .loc), ("only", .loc), ("number", .loc), ("last", .loc)]
noncomputable abbrev G_zgcd : List Str := ["gcd", "len", "subresultants", "zcontent", "zprimitive", "zscale"]
noncomputable def p_zgcd : { g : List S → Option Fl // ∀ W : Gl, Has W → Bx (DenS W 15 L_zgcd G_zgcd (fB (stAt 50)) g) } := ⟨_, fun W H => 
    (BS.cons (BO.if (BT.or (BT.cmp sem_eq (BE.len H.toFine (BA.cons (BE.var 0) BA.nil)) (BE.int _)) (BT.cmp sem_eq (BE.len H.toFine (BA.cons (BE.var 1) BA.nil)) (BE.int _))) (BS.cons (BO.assign 2 (BE.ite (BT.cmp sem_eq (BE.len H.toFine (BA.cons (BE.var 0) BA.nil)) (BE.int _)) (BE.var 1) (BE.var 0)))
    (BS.one (BO.ret (BE.call H.toOk (C_zscale H) (BA.cons (BE.call H.toOk (C_zprimitive H) (BA.cons (BE.var 2) BA.nil)) (BA.cons (BE.call H.toOk (C_zcontent H) (BA.cons (BE.var 2) BA.nil)) BA.nil)))))) BS.nil)
    (BS.cons (BO.assign 3 (BE.call H.toOk (C_gcd H) (BA.cons (BE.call H.toOk (C_zcontent H) (BA.cons (BE.var 0) BA.nil)) (BA.cons (BE.call H.toOk (C_zcontent H) (BA.cons (BE.var 1) BA.nil)) BA.nil))))
    (BS.cons (BO.assign 4 (BE.idx (BE.call H.toOk (C_subresultants H) (BA.cons (BE.call H.toOk (C_zprimitive H) (BA.cons (BE.var 0) BA.nil)) (BA.cons (BE.call H.toOk (C_zprimitive H) (BA.cons (BE.var 1) BA.nil)) BA.nil))) (BE.un sem_neg (BE.int _))))
    (BS.one (BO.ret (BE.ite (BT.cmp sem_gt (BE.len H.toFine (BA.cons (BE.var 4) BA.nil)) (BE.int _)) (BE.call H.toOk (C_zscale H) (BA.cons (BE.call H.toOk (C_zprimitive H) (BA.cons (BE.var 4) BA.nil)) (BA.cons (BE.var 3) BA.nil))) (BE.fresh (BF.list (BA.cons (BE.var 3) BA.nil)))))))))⟩
theorem at_zgcd {W : Gl} (H : Has W) : FnAt W "zgcd" ["a", "b"] (fB (stAt 50)) (fS (stAt 50)) :=
  fnAt_i H 40 50 (by decide +kernel) (by kernel_rfl) (by kernel_rfl) (by kernel_rfl) (by kernel_rfl) (fun _ _ _ => b2 fun _ _ => by kernel_rfl)
noncomputable def F_zgcd : List D → Option D := runF p_zgcd.1 2 3
theorem C_zgcd {W : Gl} (H : Has W) : Contract W "zgcd" 16 F_zgcd := Contract.of H.toFine 3 (at_zgcd H) (FnS.of (by decide +kernel)) (p_zgcd.2 W H).h

/- zderive -/
noncomputable abbrev L_zderive : Lay := [("p", .loc)]
noncomputable abbrev G_zderive : List Str := ["enumerate"]
noncomputable abbrev L1_zderive : Lay := [("power", .loc), ("number", .loc), ("p", .no)]
noncomputable abbrev G1_zderive : List Str := []
noncomputable def p_zderive : { g : List S → Option Fl // ∀ W : Gl, Has W → Bx (DenS W 3 L_zderive G_zderive (fB (stAt 21)) g) } := ⟨_, fun W H => 
    (BS.one (BO.ret (BE.fresh (BF.sliceL (BE.fresh (BF.comp (Γ' := L1_zderive) (G' := G1_zderive) (tl := 2) (CompS.of (by decide +kernel)) (BI.enum H.toFine (BA.cons (BE.var 0) BA.nil)) (BTg.tup (Names.cons 0 rfl (by decide) (by decide) (Names.cons 1 rfl (by decide) (by decide) Names.nil))) BIfs.nil (BE.bin sem_mul (BE.var 1) (BE.var 0)))) (BE.int _)))))⟩
theorem at_zderive {W : Gl} (H : Has W) : FnAt W "zderive" ["p"] (fB (stAt 21)) (fS (stAt 21)) :=
  fnAt_i H 17 21 (by decide +kernel) (by kernel_rfl) (by kernel_rfl) (by kernel_rfl) (by kernel_rfl) (fun _ _ _ => b1 fun _ => by kernel_rfl)
noncomputable def F_zderive : List D → Option D := runF p_zderive.1 1 0
theorem C_zderive {W : Gl} (H : Has W) : Contract W "zderive" 4 F_zderive := Contract.of H.toFine 0 (at_zderive H) (FnS.of (by decide +kernel)) (p_zderive.2 W H).h

/- zexact -/
noncomputable abbrev L_zexact : Lay := [("a", .loc), ("b", .loc), ("rest", .loc), ("found", .loc), ("number", .loc), ("power", .loc)]
noncomputable abbrev G_zexact : List Str := ["check_bottom", "len", "list", "max", "zraise", "zscale", "zsub", "ztrim"]
noncomputable def p_zexact : { g : List S → Option Fl // ∀ W : Gl, Has W → Bx (DenS W 9 L_zexact G_zexact (fB (stAt 26)) g) } := ⟨_, fun W H => 
    (BS.cons (BO.drop (BE.call H.toOk (C_check_bottom H) (BA.cons (BE.var 1) BA.nil)))
    (BS.cons (BO.tupS (k := 6) (names := ["rest", "found"]) (Names.cons 2 rfl (by decide) (by decide) (Names.cons 3 rfl (by decide) (by decide) Names.nil)) (BIts.consE (BE.fresh (BF.callB H.toFine "list" sem_list (.inr ⟨_, rfl⟩) (by decide +kernel) (by decide +kernel) boot_list (BA.cons (BE.var 0) BA.nil) (by decide +kernel) (by decide) rfl)) (BIts.consF (BF.bin sem_mulF (BE.fresh (BF.list (BA.cons (BE.int _) BA.nil))) (BE.callB H.toFine "max" sem_max2 (.inl ⟨_, rfl⟩) (by decide +kernel) (by decide +kernel) boot_max (BA.cons (BE.int _) (BA.cons (BE.bin sem_add (BE.bin sem_sub (BE.len H.toFine (BA.cons (BE.var 0) BA.nil)) (BE.len H.toFine (BA.cons (BE.var 1) BA.nil))) (BE.int _)) BA.nil)) (by decide +kernel) (by decide) rfl)) BIts.nil)))
    (BS.cons (BO.while 100000 (BT.cmp sem_ge (BE.len H.toFine (BA.cons (BE.var 2) BA.nil)) (BE.len H.toFine (BA.cons (BE.var 1) BA.nil))) (BS.cons (BO.if (BT.cmp sem_ne (BE.bin sem_mod (BE.idx (BE.var 2) (BE.un sem_neg (BE.int _))) (BE.idx (BE.var 1) (BE.un sem_neg (BE.int _)))) (BE.int _)) (BS.one (BO.ret BE.none)) BS.nil)
    (BS.cons (BO.tupS (k := 6) (names := ["number", "power"]) (Names.cons 4 rfl (by decide) (by decide) (Names.cons 5 rfl (by decide) (by decide) Names.nil)) (BIts.consE (BE.bin sem_fdiv (BE.idx (BE.var 2) (BE.un sem_neg (BE.int _))) (BE.idx (BE.var 1) (BE.un sem_neg (BE.int _)))) (BIts.consE (BE.bin sem_sub (BE.len H.toFine (BA.cons (BE.var 2) BA.nil)) (BE.len H.toFine (BA.cons (BE.var 1) BA.nil))) BIts.nil)))
    (BS.cons (BO.setItem 3 (BE.var 4) (BE.var 5))
    (BS.one (BO.assign 2 (BE.call H.toOk (C_zsub H) (BA.cons (BE.var 2) (BA.cons (BE.call H.toOk (C_zraise H) (BA.cons (BE.call H.toOk (C_zscale H) (BA.cons (BE.var 1) (BA.cons (BE.var 4) BA.nil))) (BA.cons (BE.var 5) BA.nil))) BA.nil)))))))))
    (BS.freeze 3 (BS.one (BO.ret (BE.ite (BT.cmp sem_eq (BE.len H.toFine (BA.cons (BE.var 2) BA.nil)) (BE.int _)) (BE.call H.toOk (C_ztrim H) (BA.cons (BE.var 3) BA.nil)) BE.none)))))))⟩
theorem at_zexact {W : Gl} (H : Has W) : FnAt W "zexact" ["a", "b"] (fB (stAt 26)) (fS (stAt 26)) :=
  fnAt_i H 21 26 (by decide +kernel) (by kernel_rfl) (by kernel_rfl) (by kernel_rfl) (by kernel_rfl) (fun _ _ _ => b2 fun _ _ => by kernel_rfl)
noncomputable def F_zexact : List D → Option D := runF p_zexact.1 2 4
theorem C_zexact {W : Gl} (H : Has W) : Contract W "zexact" 10 F_zexact := Contract.of H.toFine 4 (at_zexact H) (FnS.of (by decide +kernel)) (p_zexact.2 W H).h

/- zdegree -/
noncomputable abbrev L_zdegree : Lay := [("p", .loc)]
noncomputable abbrev G_zdegree : List Str := ["len"]
noncomputable def p_zdegree : { g : List S → Option Fl // ∀ W : Gl, Has W → Bx (DenS W 3 L_zdegree G_zdegree (fB (stAt 10)) g) } := ⟨_, fun W H => 
    (BS.one (BO.ret (BE.bin sem_sub (BE.len H.toFine (BA.cons (BE.var 0) BA.nil)) (BE.int _))))⟩
theorem at_zdegree {W : Gl} (H : Has W) : FnAt W "zdegree" ["p"] (fB (stAt 10)) (fS (stAt 10)) :=
  fnAt_i H 6 10 (by decide +kernel) (by kernel_rfl) (by kernel_rfl) (by kernel_rfl) (by kernel_rfl) (fun _ _ _ => b1 fun _ => by kernel_rfl)
noncomputable def F_zdegree : List D → Option D := runF p_zdegree.1 1 0
theorem C_zdegree {W : Gl} (H : Has W) : Contract W "zdegree" 4 F_zdegree := Contract.of H.toFine 0 (at_zdegree H) (FnS.of (by decide +kernel)) (p_zdegree.2 W H).h

/- simple_part -/
noncomputable abbrev L_simple_part : Lay := [("f", .loc), ("common", .loc)]
noncomputable abbrev G_simple_part : List Str := ["zdegree", "zderive", "zexact", "zgcd"]
noncomputable def p_simple_part : { g : List S → Option Fl // ∀ W : Gl, Has W → Bx (DenS W 17 L_simple_part G_simple_part (fB (stAt 56)) g) } := ⟨_, fun W H => 
    (BS.cons (BO.assign 1 (BE.call H.toOk (C_zgcd H) (BA.cons (BE.var 0) (BA.cons (BE.call H.toOk (C_zderive H) (BA.cons (BE.var 0) BA.nil)) BA.nil))))
    (BS.one (BO.ret (BE.ite (BT.cmp sem_gt (BE.call H.toOk (C_zdegree H) (BA.cons (BE.var 1) BA.nil)) (BE.int _)) (BE.call H.toOk (C_zexact H) (BA.cons (BE.var 0) (BA.cons (BE.var 1) BA.nil))) (BE.var 0)))))⟩
theorem at_simple_part {W : Gl} (H : Has W) : FnAt W "simple_part" ["f"] (fB (stAt 56)) (fS (stAt 56)) :=
  fnAt_i H 45 56 (by decide +kernel) (by kernel_rfl) (by kernel_rfl) (by kernel_rfl) (by kernel_rfl) (fun _ _ _ => b1 fun _ => by kernel_rfl)
noncomputable def F_simple_part : List D → Option D := runF p_simple_part.1 1 1
theorem C_simple_part {W : Gl} (H : Has W) : Contract W "simple_part" 18 F_simple_part := Contract.of H.toFine 1 (at_simple_part H) (FnS.of (by decide +kernel)) (p_simple_part.2 W H).h

/- lessened -/
noncomputable abbrev L_lessened : Lay := [("p", .loc), ("content", .cel)]
noncomputable abbrev G_lessened : List Str := ["zcontent"]
noncomputable abbrev L1_lessened : Lay := [("coefficient", .loc), ("p", .no), ("content", .cel)]
noncomputable abbrev G1_lessened : List Str := []
noncomputable def p_lessened : { g : List S → Option Fl // ∀ W : Gl, Has W → Bx (DenS W 9 L_lessened G_lessened (fB (stAt 57)) g) } := ⟨_, fun W H => 
    (BS.cons (BO.assign 1 (BE.call H.toOk (C_zcontent H) (BA.cons (BE.var 0) BA.nil)))
    (BS.one (BO.ret (BE.ite (BT.cmp sem_gt (BE.var 1) (BE.int _)) (BE.fresh (BF.comp (Γ' := L1_lessened) (G' := G1_lessened) (tl := 1) (CompS.of (by decide +kernel)) (BI.seq (BE.var 0)) (BTg.name 0) BIfs.nil (BE.bin sem_fdiv (BE.var 0) (BE.var 2)))) (BE.var 0)))))⟩
theorem at_lessened {W : Gl} (H : Has W) : FnAt W "lessened" ["p"] (fB (stAt 57)) (fS (stAt 57)) :=
  fnAt_i H 46 57 (by decide +kernel) (by kernel_rfl) (by kernel_rfl) (by kernel_rfl) (by kernel_rfl) (fun _ _ _ => b1 fun _ => by kernel_rfl)
noncomputable def F_lessened : List D → Option D := runF p_lessened.1 1 1
theorem C_lessened {W : Gl} (H : Has W) : Contract W "lessened" 10 F_lessened := Contract.of H.toFine 1 (at_lessened H) (FnS.of (by decide +kernel)) (p_lessened.2 W H).h

/- next_of_row -/
noncomputable abbrev L_next_of_row : Lay := [("a", .loc), ("b", .loc), ("quotient", .loc), ("rest", .loc), ("power", .loc)]
noncomputable abbrev G_next_of_row : List Str := ["lessened", "pseudo", "zlead", "zneg"]
noncomputable def p_next_of_row : { g : List S → Option Fl // ∀ W : Gl, Has W → Bx (DenS W 11 L_next_of_row G_next_of_row (fB (stAt 58)) g) } := ⟨_, fun W H => 
    (BS.cons (BO.tupV (k := 5) (Names.cons 2 rfl (by decide) (by decide) (Names.cons 3 rfl (by decide) (by decide) (Names.cons 4 rfl (by decide) (by decide) Names.nil))) (BE.call H.toOk (C_pseudo H) (BA.cons (BE.var 0) (BA.cons (BE.var 1) BA.nil))))
    (BS.cons (BO.if (BT.and (BT.cmp sem_eq (BE.bin sem_mod (BE.var 4) (BE.int _)) (BE.int _)) (BT.cmp sem_lt (BE.call H.toOk (C_zlead H) (BA.cons (BE.var 1) BA.nil)) (BE.int _))) (BS.one (BO.ret (BE.call H.toOk (C_lessened H) (BA.cons (BE.var 3) BA.nil)))) BS.nil)
    (BS.one (BO.ret (BE.call H.toOk (C_lessened H) (BA.cons (BE.call H.toOk (C_zneg H) (BA.cons (BE.var 3) BA.nil)) BA.nil))))))⟩
theorem at_next_of_row {W : Gl} (H : Has W) : FnAt W "next_of_row" ["a", "b"] (fB (stAt 58)) (fS (stAt 58)) :=
  fnAt_i H 47 58 (by decide +kernel) (by kernel_rfl) (by kernel_rfl) (by kernel_rfl) (by kernel_rfl) (fun _ _ _ => b2 fun _ _ => by kernel_rfl)
noncomputable def F_next_of_row : List D → Option D := runF p_next_of_row.1 2 3
theorem C_next_of_row {W : Gl} (H : Has W) : Contract W "next_of_row" 12 F_next_of_row := Contract.of H.toFine 3 (at_next_of_row H) (FnS.of (by decide +kernel)) (p_next_of_row.2 W H).h

/- sturm_row -/
noncomputable abbrev L_sturm_row : Lay := [("f", .loc), ("found", .loc), ("later", .loc)]
noncomputable abbrev G_sturm_row : List Str := ["next_of_row", "zderive"]
noncomputable def p_sturm_row : { g : List S → Option Fl // ∀ W : Gl, Has W → Bx (DenS W 13 L_sturm_row G_sturm_row (fB (stAt 59)) g) } := ⟨_, fun W H => 
    (BS.cons (BO.tupS (k := 3) (names := ["found", "later"]) (Names.cons 1 rfl (by decide) (by decide) (Names.cons 2 rfl (by decide) (by decide) Names.nil)) (BIts.consF (BF.list (BA.cons (BE.var 0) BA.nil)) (BIts.consE (BE.call H.toOk (C_zderive H) (BA.cons (BE.var 0) BA.nil)) BIts.nil)))
    (BS.cons (BO.while 100000 (BT.cmp sem_ne (BE.var 2) (BE.fresh (BF.list BA.nil))) (BS.cons (BO.append 1 (BE.var 2))
    (BS.one (BO.assign 2 (BE.call H.toOk (C_next_of_row H) (BA.cons (BE.oidx 1 (BE.un sem_neg (BE.int _))) (BA.cons (BE.oidx 1 (BE.un sem_neg (BE.int _))) BA.nil)))))))
    (BS.freeze 1 (BS.one (BO.ret (BE.var 1))))))⟩
theorem at_sturm_row {W : Gl} (H : Has W) : FnAt W "sturm_row" ["f"] (fB (stAt 59)) (fS (stAt 59)) :=
  fnAt_i H 48 59 (by decide +kernel) (by kernel_rfl) (by kernel_rfl) (by kernel_rfl) (by kernel_rfl) (fun _ _ _ => b1 fun _ => by kernel_rfl)
noncomputable def F_sturm_row : List D → Option D := runF p_sturm_row.1 1 2
theorem C_sturm_row {W : Gl} (H : Has W) : Contract W "sturm_row" 14 F_sturm_row := Contract.of H.toFine 2 (at_sturm_row H) (FnS.of (by decide +kernel)) (p_sturm_row.2 W H).h

/- root_bound -/
noncomputable abbrev L_root_bound : Lay := [("f", .loc), ("most", .loc)]
noncomputable abbrev G_root_bound : List Str := ["abs", "max", "zlead"]
noncomputable abbrev L1_root_bound : Lay := [("coefficient", .loc), ("f", .no), ("most", .no)]
noncomputable abbrev G1_root_bound : List Str := ["abs"]
noncomputable def p_root_bound : { g : List S → Option Fl // ∀ W : Gl, Has W → Bx (DenS W 5 L_root_bound G_root_bound (fB (stAt 62)) g) } := ⟨_, fun W H => 
    (BS.cons (BO.assign 1 (BE.callB H.toFine "max" sem_maxl (.inl ⟨_, rfl⟩) (by decide +kernel) (by decide +kernel) boot_max (BA.cons (BE.fresh (BF.comp (Γ' := L1_root_bound) (G' := G1_root_bound) (tl := 1) (CompS.of (by decide +kernel)) (BI.seq (BE.var 0)) (BTg.name 0) BIfs.nil (BE.callB H.toFine "abs" sem_abs (.inl ⟨_, rfl⟩) (by decide +kernel) (by decide +kernel) boot_abs (BA.cons (BE.var 0) BA.nil) (by decide +kernel) (by decide) rfl))) BA.nil) (by decide +kernel) (by decide) rfl))
    (BS.one (BO.ret (BE.bin sem_add (BE.int _) (BE.bin sem_fdiv (BE.var 1) (BE.callB H.toFine "abs" sem_abs (.inl ⟨_, rfl⟩) (by decide +kernel) (by decide +kernel) boot_abs (BA.cons (BE.call H.toOk (C_zlead H) (BA.cons (BE.var 0) BA.nil)) BA.nil) (by decide +kernel) (by decide) rfl))))))⟩
theorem at_root_bound {W : Gl} (H : Has W) : FnAt W "root_bound" ["f"] (fB (stAt 62)) (fS (stAt 62)) :=
  fnAt_i H 51 62 (by decide +kernel) (by kernel_rfl) (by kernel_rfl) (by kernel_rfl) (by kernel_rfl) (fun _ _ _ => b1 fun _ => by kernel_rfl)
noncomputable def F_root_bound : List D → Option D := runF p_root_bound.1 1 1
theorem C_root_bound {W : Gl} (H : Has W) : Contract W "root_bound" 6 F_root_bound := Contract.of H.toFine 1 (at_root_bound H) (FnS.of (by decide +kernel)) (p_root_bound.2 W H).h

/- sign_of -/
noncomputable abbrev L_sign_of : Lay := [("number", .loc)]
noncomputable abbrev G_sign_of : List Str := []
noncomputable def p_sign_of : { g : List S → Option Fl // ∀ W : Gl, Has W → Bx (DenS W 3 L_sign_of G_sign_of (fB (stAt 52)) g) } := ⟨_, fun W H => 
    (BS.one (BO.ret (BE.bin sem_sub (BE.cmp sem_gt (BE.var 0) (BE.int _)) (BE.cmp sem_lt (BE.var 0) (BE.int _)))))⟩
theorem at_sign_of {W : Gl} (H : Has W) : FnAt W "sign_of" ["number"] (fB (stAt 52)) (fS (stAt 52)) :=
  fnAt_i H 41 52 (by decide +kernel) (by kernel_rfl) (by kernel_rfl) (by kernel_rfl) (by kernel_rfl) (fun _ _ _ => b1 fun _ => by kernel_rfl)
noncomputable def F_sign_of : List D → Option D := runF p_sign_of.1 1 0
theorem C_sign_of {W : Gl} (H : Has W) : Contract W "sign_of" 4 F_sign_of := Contract.of H.toFine 0 (at_sign_of H) (FnS.of (by decide +kernel)) (p_sign_of.2 W H).h

/- end_sign -/
noncomputable abbrev L_end_sign : Lay := [("p", .loc), ("end", .loc), ("found", .loc)]
noncomputable abbrev G_end_sign : List Str := ["sign_of", "zdegree", "zlead"]
noncomputable def p_end_sign : { g : List S → Option Fl // ∀ W : Gl, Has W → Bx (DenS W 5 L_end_sign G_end_sign (fB (stAt 54)) g) } := ⟨_, fun W H => 
    (BS.cons (BO.if (BT.cmp sem_eq (BE.var 0) (BE.fresh (BF.list BA.nil))) (BS.one (BO.ret (BE.int _))) BS.nil)
    (BS.cons (BO.assign 2 (BE.call H.toOk (C_sign_of H) (BA.cons (BE.call H.toOk (C_zlead H) (BA.cons (BE.var 0) BA.nil)) BA.nil)))
    (BS.one (BO.ret (BE.ite (BT.and (BT.cmp sem_eq (BE.var 1) (BE.str _)) (BT.cmp sem_eq (BE.bin sem_mod (BE.call H.toOk (C_zdegree H) (BA.cons (BE.var 0) BA.nil)) (BE.int _)) (BE.int _))) (BE.un sem_neg (BE.var 2)) (BE.var 2))))))⟩
theorem at_end_sign {W : Gl} (H : Has W) : FnAt W "end_sign" ["p", "end"] (fB (stAt 54)) (fS (stAt 54)) :=
  fnAt_i H 43 54 (by decide +kernel) (by kernel_rfl) (by kernel_rfl) (by kernel_rfl) (by kernel_rfl) (fun _ _ _ => b2 fun _ _ => by kernel_rfl)
noncomputable def F_end_sign : List D → Option D := runF p_end_sign.1 2 1
theorem C_end_sign {W : Gl} (H : Has W) : Contract W "end_sign" 6 F_end_sign := Contract.of H.toFine 1 (at_end_sign H) (FnS.of (by decide +kernel)) (p_end_sign.2 W H).h

/- value_sign -/
noncomputable abbrev L_value_sign : Lay := [("p", .loc), ("x", .loc), ("top", .loc), ("bottom", .loc), ("found", .loc), ("scale", .loc), ("coefficient", .loc)]
noncomputable abbrev G_value_sign : List Str := ["reversed", "sign_of"]
noncomputable def p_value_sign : { g : List S → Option Fl // ∀ W : Gl, Has W → Bx (DenS W 5 L_value_sign G_value_sign (fB (stAt 53)) g) } := ⟨_, fun W H => 
    (BS.cons (BO.tupV (k := 7) (Names.cons 2 rfl (by decide) (by decide) (Names.cons 3 rfl (by decide) (by decide) Names.nil)) (BE.var 1))
    (BS.cons (BO.tupP (k := 7) (Names.cons 4 rfl (by decide) (by decide) (Names.cons 5 rfl (by decide) (by decide) Names.nil)) (BIts.consE (BE.int _) (BIts.consE (BE.int _) BIts.nil)))
    (BS.cons (BO.for (k := 7) (BI.rev H.toFine (BA.cons (BE.var 0) BA.nil)) (BTg.name 6) (BS.cons (BO.assign 4 (BE.bin sem_add (BE.bin sem_mul (BE.var 4) (BE.var 2)) (BE.bin sem_mul (BE.var 6) (BE.var 5))))
    (BS.one (BO.assign 5 (BE.bin sem_mul (BE.var 5) (BE.var 3))))))
    (BS.one (BO.ret (BE.call H.toOk (C_sign_of H) (BA.cons (BE.var 4) BA.nil)))))))⟩
theorem at_value_sign {W : Gl} (H : Has W) : FnAt W "value_sign" ["p", "x"] (fB (stAt 53)) (fS (stAt 53)) :=
  fnAt_i H 42 53 (by decide +kernel) (by kernel_rfl) (by kernel_rfl) (by kernel_rfl) (by kernel_rfl) (fun _ _ _ => b2 fun _ _ => by kernel_rfl)
noncomputable def F_value_sign : List D → Option D := runF p_value_sign.1 2 5
theorem C_value_sign {W : Gl} (H : Has W) : Contract W "value_sign" 6 F_value_sign := Contract.of H.toFine 5 (at_value_sign H) (FnS.of (by decide +kernel)) (p_value_sign.2 W H).h

/- sign_at -/
noncomputable abbrev L_sign_at : Lay := [("p", .loc), ("x", .loc)]
noncomputable abbrev G_sign_at : List Str := ["end_sign", "isinstance", "str", "value_sign"]
noncomputable def p_sign_at : { g : List S → Option Fl // ∀ W : Gl, Has W → Bx (DenS W 7 L_sign_at G_sign_at (fB (stAt 55)) g) } := ⟨_, fun W H => 
    (BS.one (BO.ret (BE.ite (BT.isStr H.toFine (BE.var 1)) (BE.call H.toOk (C_end_sign H) (BA.cons (BE.var 0) (BA.cons (BE.var 1) BA.nil))) (BE.call H.toOk (C_value_sign H) (BA.cons (BE.var 0) (BA.cons (BE.var 1) BA.nil))))))⟩
theorem at_sign_at {W : Gl} (H : Has W) : FnAt W "sign_at" ["p", "x"] (fB (stAt 55)) (fS (stAt 55)) :=
  fnAt_i H 44 55 (by decide +kernel) (by kernel_rfl) (by kernel_rfl) (by kernel_rfl) (by kernel_rfl) (fun _ _ _ => b2 fun _ _ => by kernel_rfl)
noncomputable def F_sign_at : List D → Option D := runF p_sign_at.1 2 0
theorem C_sign_at {W : Gl} (H : Has W) : Contract W "sign_at" 8 F_sign_at := Contract.of H.toFine 0 (at_sign_at H) (FnS.of (by decide +kernel)) (p_sign_at.2 W H).h

/- changes_at -/
noncomputable abbrev L_changes_at : Lay := [("row", .loc), ("x", .cel), ("signs", .cel)]
noncomputable abbrev G_changes_at : List Str := ["len", "range"]
noncomputable abbrev L1_changes_at : Lay := [("p", .loc), ("row", .no), ("x", .cel), ("signs", .no)]
noncomputable abbrev G1_changes_at : List Str := ["sign_at"]
noncomputable abbrev L2_changes_at : Lay := [("sign", .loc), ("row", .no), ("x", .no), ("signs", .no)]
noncomputable abbrev G2_changes_at : List Str := []
noncomputable abbrev L3_changes_at : Lay := [("at", .loc), ("row", .no), ("x", .no), ("signs", .cel)]
noncomputable abbrev G3_changes_at : List Str := []
noncomputable def p_changes_at : { g : List S → Option Fl // ∀ W : Gl, Has W → Bx (DenS W 9 L_changes_at G_changes_at (fB (stAt 60)) g) } := ⟨_, fun W H => 
    (BS.cons (BO.assign 2 (BE.fresh (BF.comp (Γ' := L1_changes_at) (G' := G1_changes_at) (tl := 1) (CompS.of (by decide +kernel)) (BI.seq (BE.var 0)) (BTg.name 0) BIfs.nil (BE.call H.toOk (C_sign_at H) (BA.cons (BE.var 0) (BA.cons (BE.var 2) BA.nil))))) (hs := fun _ es => swaps_cel (i := 2) es rfl))
    (BS.cons (BO.assign 2 (BE.fresh (BF.comp (Γ' := L2_changes_at) (G' := G2_changes_at) (tl := 1) (CompS.of (by decide +kernel)) (BI.seq (BE.var 2)) (BTg.name 0) (BIfs.one (BT.cmp sem_ne (BE.var 0) (BE.int _))) (BE.var 0))) (hs := fun _ es => swaps_cel (i := 2) es rfl))
    (BS.one (BO.ret (BE.len H.toFine (BA.cons (BE.fresh (BF.comp (Γ' := L3_changes_at) (G' := G3_changes_at) (tl := 1) (CompS.of (by decide +kernel)) (BI.rng2 H.toFine (BA.cons (BE.int _) (BA.cons (BE.len H.toFine (BA.cons (BE.var 2) BA.nil)) BA.nil))) (BTg.name 0) (BIfs.one (BT.cmp sem_ne (BE.idx (BE.var 3) (BE.var 0)) (BE.idx (BE.var 3) (BE.bin sem_sub (BE.var 0) (BE.int _))))) (BE.int _))) BA.nil))))))⟩
theorem at_changes_at {W : Gl} (H : Has W) : FnAt W "changes_at" ["row", "x"] (fB (stAt 60)) (fS (stAt 60)) :=
  fnAt_i H 49 60 (by decide +kernel) (by kernel_rfl) (by kernel_rfl) (by kernel_rfl) (by kernel_rfl) (fun _ _ _ => b2 fun _ _ => by kernel_rfl)
noncomputable def F_changes_at : List D → Option D := runF p_changes_at.1 2 1
theorem C_changes_at {W : Gl} (H : Has W) : Contract W "changes_at" 10 F_changes_at := Contract.of H.toFine 1 (at_changes_at H) (FnS.of (by decide +kernel)) (p_changes_at.2 W H).h

/- count_by_row -/
noncomputable abbrev L_count_by_row : Lay := [("row", .loc), ("low", .loc), ("high", .loc)]
noncomputable abbrev G_count_by_row : List Str := ["changes_at"]
noncomputable def p_count_by_row : { g : List S → Option Fl // ∀ W : Gl, Has W → Bx (DenS W 11 L_count_by_row G_count_by_row (fB (stAt 61)) g) } := ⟨_, fun W H => 
    (BS.one (BO.ret (BE.bin sem_sub (BE.call H.toOk (C_changes_at H) (BA.cons (BE.var 0) (BA.cons (BE.var 1) BA.nil))) (BE.call H.toOk (C_changes_at H) (BA.cons (BE.var 0) (BA.cons (BE.var 2) BA.nil))))))⟩
theorem at_count_by_row {W : Gl} (H : Has W) : FnAt W "count_by_row" ["row", "low", "high"] (fB (stAt 61)) (fS (stAt 61)) :=
  fnAt_i H 50 61 (by decide +kernel) (by kernel_rfl) (by kernel_rfl) (by kernel_rfl) (by kernel_rfl) (fun _ _ _ => b3 fun _ _ _ => by kernel_rfl)
noncomputable def F_count_by_row : List D → Option D := runF p_count_by_row.1 3 0
theorem C_count_by_row {W : Gl} (H : Has W) : Contract W "count_by_row" 12 F_count_by_row := Contract.of H.toFine 0 (at_count_by_row H) (FnS.of (by decide +kernel)) (p_count_by_row.2 W H).h

/- rat -/
noncomputable abbrev L_rat : Lay := [("top", .loc), ("bottom", .loc), ("g", .loc)]
noncomputable abbrev G_rat : List Str := ["CasFail", "gcd"]
noncomputable def p_rat : { g : List S → Option Fl // ∀ W : Gl, Has W → Bx (DenS W 5 L_rat G_rat (fB (stAt 37)) g) } := ⟨_, fun W H => 
    (BS.cons (BO.if (BT.cmp sem_eq (BE.var 1) (BE.int _)) BS.stuck BS.nil)
    (BS.cons (BO.assign 2 (BE.ite (BT.cmp sem_gt (BE.var 1) (BE.int _)) (BE.call H.toOk (C_gcd H) (BA.cons (BE.var 0) (BA.cons (BE.var 1) BA.nil))) (BE.bin sem_sub (BE.int _) (BE.call H.toOk (C_gcd H) (BA.cons (BE.var 0) (BA.cons (BE.var 1) BA.nil))))))
    (BS.one (BO.ret (BE.tup (BA.cons (BE.bin sem_fdiv (BE.var 0) (BE.var 2)) (BA.cons (BE.bin sem_fdiv (BE.var 1) (BE.var 2)) BA.nil)))))))⟩
theorem at_rat {W : Gl} (H : Has W) : FnAt W "rat" ["top", "bottom"] (fB (stAt 37)) (fS (stAt 37)) :=
  fnAt_i H 28 37 (by decide +kernel) (by kernel_rfl) (by kernel_rfl) (by kernel_rfl) (by kernel_rfl) (fun _ _ _ => b2 fun _ _ => by kernel_rfl)
noncomputable def F_rat : List D → Option D := runF p_rat.1 2 1
theorem C_rat {W : Gl} (H : Has W) : Contract W "rat" 6 F_rat := Contract.of H.toFine 1 (at_rat H) (FnS.of (by decide +kernel)) (p_rat.2 W H).h

end Gos
end

section
open PySem PySem.W PyProof.Rows
set_option maxHeartbeats 2000000
namespace Gos
open PySem

/- rmul -/
noncomputable abbrev L_rmul : Lay := [("a", .loc), ("b", .loc)]
noncomputable abbrev G_rmul : List Str := ["rat"]
noncomputable def p_rmul : { g : List S → Option Fl // ∀ W : Gl, Has W → Bx (DenS W 7 L_rmul G_rmul (fB (stAt 40)) g) } := ⟨_, fun W H => 
    (BS.one (BO.ret (BE.call H.toOk (C_rat H) (BA.cons (BE.bin sem_mul (BE.idx (BE.var 0) (BE.int _)) (BE.idx (BE.var 1) (BE.int _))) (BA.cons (BE.bin sem_mul (BE.idx (BE.var 0) (BE.int _)) (BE.idx (BE.var 1) (BE.int _))) BA.nil)))))⟩
theorem at_rmul {W : Gl} (H : Has W) : FnAt W "rmul" ["a", "b"] (fB (stAt 40)) (fS (stAt 40)) :=
  fnAt_i H 31 40 (by decide +kernel) (by kernel_rfl) (by kernel_rfl) (by kernel_rfl) (by kernel_rfl) (fun _ _ _ => b2 fun _ _ => by kernel_rfl)
noncomputable def F_rmul : List D → Option D := runF p_rmul.1 2 0
theorem C_rmul {W : Gl} (H : Has W) : Contract W "rmul" 8 F_rmul := Contract.of H.toFine 0 (at_rmul H) (FnS.of (by decide +kernel)) (p_rmul.2 W H).h

/- radd -/
noncomputable abbrev L_radd : Lay := [("a", .loc), ("b", .loc)]
noncomputable abbrev G_radd : List Str := ["rat"]
noncomputable def p_radd : { g : List S → Option Fl // ∀ W : Gl, Has W → Bx (DenS W 7 L_radd G_radd (fB (stAt 38)) g) } := ⟨_, fun W H => 
    (BS.one (BO.ret (BE.call H.toOk (C_rat H) (BA.cons (BE.bin sem_add (BE.bin sem_mul (BE.idx (BE.var 0) (BE.int _)) (BE.idx (BE.var 1) (BE.int _))) (BE.bin sem_mul (BE.idx (BE.var 1) (BE.int _)) (BE.idx (BE.var 0) (BE.int _)))) (BA.cons (BE.bin sem_mul (BE.idx (BE.var 0) (BE.int _)) (BE.idx (BE.var 1) (BE.int _))) BA.nil)))))⟩
theorem at_radd {W : Gl} (H : Has W) : FnAt W "radd" ["a", "b"] (fB (stAt 38)) (fS (stAt 38)) :=
  fnAt_i H 29 38 (by decide +kernel) (by kernel_rfl) (by kernel_rfl) (by kernel_rfl) (by kernel_rfl) (fun _ _ _ => b2 fun _ _ => by kernel_rfl)
noncomputable def F_radd : List D → Option D := runF p_radd.1 2 0
theorem C_radd {W : Gl} (H : Has W) : Contract W "radd" 8 F_radd := Contract.of H.toFine 0 (at_radd H) (FnS.of (by decide +kernel)) (p_radd.2 W H).h

/- middle -/
noncomputable abbrev L_middle : Lay := [("low", .loc), ("high", .loc)]
noncomputable abbrev G_middle : List Str := ["HALF", "radd", "rmul"]
noncomputable def p_middle : { g : List S → Option Fl // ∀ W : Gl, Has W → Bx (DenS W 9 L_middle G_middle (fB (stAt 66)) g) } := ⟨_, fun W H => 
    (BS.one (BO.ret (BE.call H.toOk (C_rmul H) (BA.cons (BE.call H.toOk (C_radd H) (BA.cons (BE.var 0) (BA.cons (BE.var 1) BA.nil))) (BA.cons (BE.glob H.toOk (K_HALF H)) BA.nil)))))⟩
theorem at_middle {W : Gl} (H : Has W) : FnAt W "middle" ["low", "high"] (fB (stAt 66)) (fS (stAt 66)) :=
  fnAt_i H 52 66 (by decide +kernel) (by kernel_rfl) (by kernel_rfl) (by kernel_rfl) (by kernel_rfl) (fun _ _ _ => b2 fun _ _ => by kernel_rfl)
noncomputable def F_middle : List D → Option D := runF p_middle.1 2 0
theorem C_middle {W : Gl} (H : Has W) : Contract W "middle" 10 F_middle := Contract.of H.toFine 0 (at_middle H) (FnS.of (by decide +kernel)) (p_middle.2 W H).h

/- split_roots -/
noncomputable abbrev L_split_roots : Lay := [("f", .loc), ("row", .loc), ("bound", .loc), ("waiting", .loc), ("found", .loc), ("low", .loc), ("high", .loc), ("many", .loc), ("x", .loc)]
noncomputable abbrev G_split_roots : List Str := ["count_by_row", "middle", "root_bound", "sturm_row", "value_sign"]
noncomputable def p_split_roots : { g : List S → Option Fl // ∀ W : Gl, Has W → Bx (DenS W 15 L_split_roots G_split_roots (fB (stAt 69)) g) } := ⟨_, fun W H => 
    (BS.cons (BO.tupS (k := 9) (names := ["row", "bound"]) (Names.cons 1 rfl (by decide) (by decide) (Names.cons 2 rfl (by decide) (by decide) Names.nil)) (BIts.consE (BE.call H.toOk (C_sturm_row H) (BA.cons (BE.var 0) BA.nil)) (BIts.consE (BE.call H.toOk (C_root_bound H) (BA.cons (BE.var 0) BA.nil)) BIts.nil)))
    (BS.cons (BO.tupS (k := 9) (names := ["waiting", "found"]) (Names.cons 3 rfl (by decide) (by decide) (Names.cons 4 rfl (by decide) (by decide) Names.nil)) (BIts.consF (BF.list (BA.cons (BE.tup (BA.cons (BE.tup (BA.cons (BE.un sem_neg (BE.var 2)) (BA.cons (BE.int _) BA.nil))) (BA.cons (BE.tup (BA.cons (BE.var 2) (BA.cons (BE.int _) BA.nil))) BA.nil))) BA.nil)) (BIts.consF (BF.list BA.nil) BIts.nil)))
    (BS.cons (BO.while 100000 (BT.ocmp 3 sem_ne (BE.fresh (BF.list BA.nil))) (BS.cons (BO.pop 3 (k := 9) (Names.cons 5 rfl (by decide) (by decide) (Names.cons 6 rfl (by decide) (by decide) Names.nil)))
    (BS.cons (BO.assign 7 (BE.call H.toOk (C_count_by_row H) (BA.cons (BE.var 1) (BA.cons (BE.var 5) (BA.cons (BE.var 6) BA.nil)))))
    (BS.one (BO.if (BT.cmp sem_eq (BE.var 7) (BE.int _)) (BS.one (BO.append 4 (BE.tup (BA.cons (BE.var 5) (BA.cons (BE.var 6) BA.nil))))) (BS.one (BO.if (BT.cmp sem_gt (BE.var 7) (BE.int _)) (BS.cons (BO.assign 8 (BE.call H.toOk (C_middle H) (BA.cons (BE.var 5) (BA.cons (BE.var 6) BA.nil))))
    (BS.cons (BO.if (BT.cmp sem_eq (BE.call H.toOk (C_value_sign H) (BA.cons (BE.var 0) (BA.cons (BE.var 8) BA.nil))) (BE.int _)) (BS.one (BO.ret (BE.tup (BA.cons (BE.fresh (BF.list BA.nil)) (BA.cons (BE.var 8) BA.nil))))) BS.nil)
    (BS.cons (BO.append 3 (BE.tup (BA.cons (BE.var 8) (BA.cons (BE.var 6) BA.nil))))
    (BS.one (BO.append 3 (BE.tup (BA.cons (BE.var 5) (BA.cons (BE.var 8) BA.nil)))))))) BS.nil)))))))
    (BS.freeze 4 (BS.one (BO.ret (BE.tup (BA.cons (BE.var 4) (BA.cons BE.none BA.nil)))))))))⟩
theorem at_split_roots {W : Gl} (H : Has W) : FnAt W "split_roots" ["f"] (fB (stAt 69)) (fS (stAt 69)) :=
  fnAt_i H 55 69 (by decide +kernel) (by kernel_rfl) (by kernel_rfl) (by kernel_rfl) (by kernel_rfl) (fun _ _ _ => b1 fun _ => by kernel_rfl)
noncomputable def F_split_roots : List D → Option D := runF p_split_roots.1 1 8
theorem C_split_roots {W : Gl} (H : Has W) : Contract W "split_roots" 16 F_split_roots := Contract.of H.toFine 8 (at_split_roots H) (FnS.of (by decide +kernel)) (p_split_roots.2 W H).h

/- linear_of -/
noncomputable abbrev L_linear_of : Lay := [("x", .loc)]
noncomputable abbrev G_linear_of : List Str := []
noncomputable def p_linear_of : { g : List S → Option Fl // ∀ W : Gl, Has W → Bx (DenS W 3 L_linear_of G_linear_of (fB (stAt 67)) g) } := ⟨_, fun W H => 
    (BS.one (BO.ret (BE.fresh (BF.list (BA.cons (BE.un sem_neg (BE.idx (BE.var 0) (BE.int _))) (BA.cons (BE.idx (BE.var 0) (BE.int _)) BA.nil))))))⟩
theorem at_linear_of {W : Gl} (H : Has W) : FnAt W "linear_of" ["x"] (fB (stAt 67)) (fS (stAt 67)) :=
  fnAt_i H 53 67 (by decide +kernel) (by kernel_rfl) (by kernel_rfl) (by kernel_rfl) (by kernel_rfl) (fun _ _ _ => b1 fun _ => by kernel_rfl)
noncomputable def F_linear_of : List D → Option D := runF p_linear_of.1 1 0
theorem C_linear_of {W : Gl} (H : Has W) : Contract W "linear_of" 4 F_linear_of := Contract.of H.toFine 0 (at_linear_of H) (FnS.of (by decide +kernel)) (p_linear_of.2 W H).h

/- halved -/
noncomputable abbrev L_halved : Lay := [("f", .loc), ("interval", .loc), ("low", .loc), ("high", .loc), ("x", .loc), ("here", .loc)]
noncomputable abbrev G_halved : List Str := ["middle", "value_sign"]
noncomputable def p_halved : { g : List S → Option Fl // ∀ W : Gl, Has W → Bx (DenS W 11 L_halved G_halved (fB (stAt 73)) g) } := ⟨_, fun W H => 
    (BS.cons (BO.tupV (k := 6) (Names.cons 2 rfl (by decide) (by decide) (Names.cons 3 rfl (by decide) (by decide) Names.nil)) (BE.var 1))
    (BS.cons (BO.assign 4 (BE.call H.toOk (C_middle H) (BA.cons (BE.var 2) (BA.cons (BE.var 3) BA.nil))))
    (BS.cons (BO.assign 5 (BE.call H.toOk (C_value_sign H) (BA.cons (BE.var 0) (BA.cons (BE.var 4) BA.nil))))
    (BS.cons (BO.if (BT.cmp sem_eq (BE.var 5) (BE.int _)) (BS.one (BO.ret (BE.tup (BA.cons (BE.var 4) (BA.cons (BE.var 4) BA.nil))))) BS.nil)
    (BS.one (BO.ret (BE.ite (BT.cmp sem_eq (BE.var 5) (BE.call H.toOk (C_value_sign H) (BA.cons (BE.var 0) (BA.cons (BE.var 2) BA.nil)))) (BE.tup (BA.cons (BE.var 4) (BA.cons (BE.var 3) BA.nil))) (BE.tup (BA.cons (BE.var 2) (BA.cons (BE.var 4) BA.nil))))))))))⟩
theorem at_halved {W : Gl} (H : Has W) : FnAt W "halved" ["f", "interval"] (fB (stAt 73)) (fS (stAt 73)) :=
  fnAt_i H 59 73 (by decide +kernel) (by kernel_rfl) (by kernel_rfl) (by kernel_rfl) (by kernel_rfl) (fun _ _ _ => b2 fun _ _ => by kernel_rfl)
noncomputable def F_halved : List D → Option D := runF p_halved.1 2 4
theorem C_halved {W : Gl} (H : Has W) : Contract W "halved" 12 F_halved := Contract.of H.toFine 4 (at_halved H) (FnS.of (by decide +kernel)) (p_halved.2 W H).h

/- is_inside -/
noncomputable abbrev L_is_inside : Lay := [("x", .loc), ("interval", .loc)]
noncomputable abbrev G_is_inside : List Str := ["rcompare"]
noncomputable def p_is_inside : { g : List S → Option Fl // ∀ W : Gl, Has W → Bx (DenS W 5 L_is_inside G_is_inside (fB (stAt 68)) g) } := ⟨_, fun W H => 
    (BS.one (BO.ret (BE.and (BE.cmp sem_le (BE.call H.toOk (C_rcompare H) (BA.cons (BE.idx (BE.var 1) (BE.int _)) (BA.cons (BE.var 0) BA.nil))) (BE.int _)) (BE.cmp sem_le (BE.call H.toOk (C_rcompare H) (BA.cons (BE.var 0) (BA.cons (BE.idx (BE.var 1) (BE.int _)) BA.nil))) (BE.int _)))))⟩
theorem at_is_inside {W : Gl} (H : Has W) : FnAt W "is_inside" ["x", "interval"] (fB (stAt 68)) (fS (stAt 68)) :=
  fnAt_i H 54 68 (by decide +kernel) (by kernel_rfl) (by kernel_rfl) (by kernel_rfl) (by kernel_rfl) (fun _ _ _ => b2 fun _ _ => by kernel_rfl)
noncomputable def F_is_inside : List D → Option D := runF p_is_inside.1 2 0
theorem C_is_inside {W : Gl} (H : Has W) : Contract W "is_inside" 6 F_is_inside := Contract.of H.toFine 0 (at_is_inside H) (FnS.of (by decide +kernel)) (p_is_inside.2 W H).h

/- kept_off -/
noncomputable abbrev L_kept_off : Lay := [("f", .loc), ("interval", .cel), ("numbers", .loc)]
noncomputable abbrev G_kept_off : List Str := ["any", "halved"]
noncomputable abbrev L1_kept_off : Lay := [("x", .loc), ("f", .no), ("interval", .cel), ("numbers", .no)]
noncomputable abbrev G1_kept_off : List Str := ["is_inside"]
noncomputable def p_kept_off : { g : List S → Option Fl // ∀ W : Gl, Has W → Bx (DenS W 13 L_kept_off G_kept_off (fB (stAt 71)) g) } := ⟨_, fun W H => 
    (BS.cons (BO.while 100000 (BT.and (BT.cmp sem_ne (BE.idx (BE.var 1) (BE.int _)) (BE.idx (BE.var 1) (BE.int _))) (BT.val (BE.callB H.toFine "any" sem_any (.inl ⟨_, rfl⟩) (by decide +kernel) (by decide +kernel) boot_any (BA.cons (BE.fresh (BF.comp (Γ' := L1_kept_off) (G' := G1_kept_off) (tl := 1) (CompS.of (by decide +kernel)) (BI.seq (BE.var 2)) (BTg.name 0) BIfs.nil (BE.call H.toOk (C_is_inside H) (BA.cons (BE.var 0) (BA.cons (BE.var 2) BA.nil))))) BA.nil) (by decide +kernel) (by decide) rfl))) (BS.one (BO.assign 1 (BE.call H.toOk (C_halved H) (BA.cons (BE.var 0) (BA.cons (BE.var 1) BA.nil))))))
    (BS.one (BO.ret (BE.var 1))))⟩
theorem at_kept_off {W : Gl} (H : Has W) : FnAt W "kept_off" ["f", "interval", "numbers"] (fB (stAt 71)) (fS (stAt 71)) :=
  fnAt_i H 57 71 (by decide +kernel) (by kernel_rfl) (by kernel_rfl) (by kernel_rfl) (by kernel_rfl) (fun _ _ _ => b3 fun _ _ _ => by kernel_rfl)
noncomputable def F_kept_off : List D → Option D := runF p_kept_off.1 3 0
theorem C_kept_off {W : Gl} (H : Has W) : Contract W "kept_off" 14 F_kept_off := Contract.of H.toFine 0 (at_kept_off H) (FnS.of (by decide +kernel)) (p_kept_off.2 W H).h

/- isolate -/
noncomputable abbrev L_isolate : Lay := [("f", .loc), ("left", .cel), ("exact", .cel), ("found", .loc), ("met", .loc), ("pieces", .loc)]
noncomputable abbrev G_isolate : List Str := ["CasFail", "linear_of", "simple_part", "sorted_intervals", "split_roots", "zdegree", "zexact"]
noncomputable abbrev L1_isolate : Lay := [("x", .loc), ("f", .no), ("left", .no), ("exact", .no), ("found", .no), ("met", .no), ("pieces", .no)]
noncomputable abbrev G1_isolate : List Str := []
noncomputable abbrev L2_isolate : Lay := [("interval", .loc), ("f", .no), ("left", .cel), ("exact", .cel), ("found", .no), ("met", .no), ("pieces", .no)]
noncomputable abbrev G2_isolate : List Str := ["kept_off"]
noncomputable def p_isolate : { g : List S → Option Fl // ∀ W : Gl, Has W → Bx (DenS W 19 L_isolate G_isolate (fB (stAt 70)) g) } := ⟨_, fun W H => 
    (BS.cons (BO.if (BT.cmp sem_eq (BE.var 0) (BE.fresh (BF.list BA.nil))) BS.stuck BS.nil)
    (BS.cons (BO.tupP (k := 6) (Names.cons 1 rfl (by decide) (by decide) (Names.cons 2 rfl (by decide) (by decide) Names.nil)) (BIts.consE (BE.call H.toOk (C_simple_part H) (BA.cons (BE.var 0) BA.nil)) (BIts.consE (BE.fresh (BF.list BA.nil)) BIts.nil)))
    (BS.cons (BO.tupV (k := 6) (Names.cons 3 rfl (by decide) (by decide) (Names.cons 4 rfl (by decide) (by decide) Names.nil)) (BE.ite (BT.cmp sem_gt (BE.call H.toOk (C_zdegree H) (BA.cons (BE.var 1) BA.nil)) (BE.int _)) (BE.call H.toOk (C_split_roots H) (BA.cons (BE.var 1) BA.nil)) (BE.tup (BA.cons (BE.fresh (BF.list BA.nil)) (BA.cons BE.none BA.nil)))))
    (BS.cons (BO.while 100000 (BT.cmp sem_nisN (BE.var 4) BE.none) BS.stuck)
    (BS.cons (BO.assign 5 (BE.fresh (BF.bin sem_addF (BE.fresh (BF.comp (Γ' := L1_isolate) (G' := G1_isolate) (tl := 1) (CompS.of (by decide +kernel)) (BI.seq (BE.var 2)) (BTg.name 0) BIfs.nil (BE.tup (BA.cons (BE.var 0) (BA.cons (BE.var 0) BA.nil))))) (BE.fresh (BF.comp (Γ' := L2_isolate) (G' := G2_isolate) (tl := 1) (CompS.of (by decide +kernel)) (BI.seq (BE.var 3)) (BTg.name 0) BIfs.nil (BE.call H.toOk (C_kept_off H) (BA.cons (BE.var 2) (BA.cons (BE.var 0) (BA.cons (BE.var 3) BA.nil)))))))))
    (BS.one (BO.ret (BE.call H.toOk (C_sorted_intervals H) (BA.cons (BE.var 5) BA.nil)))))))))⟩
theorem at_isolate {W : Gl} (H : Has W) : FnAt W "isolate" ["f"] (fB (stAt 70)) (fS (stAt 70)) :=
  fnAt_i H 56 70 (by decide +kernel) (by kernel_rfl) (by kernel_rfl) (by kernel_rfl) (by kernel_rfl) (fun _ _ _ => b1 fun _ => by kernel_rfl)
noncomputable def F_isolate : List D → Option D := runF p_isolate.1 1 5
theorem C_isolate {W : Gl} (H : Has W) : Contract W "isolate" 20 F_isolate := Contract.of H.toFine 5 (at_isolate H) (FnS.of (by decide +kernel)) (p_isolate.2 W H).h

/- least_divisor -/
noncomputable abbrev L_least_divisor : Lay := [("n", .loc), ("begin", .loc), ("found", .loc)]
noncomputable abbrev G_least_divisor : List Str := []
noncomputable def p_least_divisor : { g : List S → Option Fl // ∀ W : Gl, Has W → Bx (DenS W 3 L_least_divisor G_least_divisor (fB (stAt 5)) g) } := ⟨_, fun W H => 
    (BS.cons (BO.assign 2 (BE.var 1))
    (BS.cons (BO.while 100000 (BT.cmp sem_le (BE.bin sem_mul (BE.var 2) (BE.var 2)) (BE.var 0)) (BS.cons (BO.if (BT.cmp sem_eq (BE.bin sem_mod (BE.var 0) (BE.var 2)) (BE.int _)) (BS.one (BO.ret (BE.var 2))) BS.nil)
    (BS.one (BO.aug 2 sem_iadd (BE.ite (BT.cmp sem_eq (BE.var 2) (BE.int _)) (BE.int _) (BE.int _))))))
    (BS.one (BO.ret (BE.var 0)))))⟩
theorem at_least_divisor {W : Gl} (H : Has W) : FnAt W "least_divisor" ["n", "begin"] (fB (stAt 5)) (fS (stAt 5)) :=
  fnAt_i H 2 5 (by decide +kernel) (by kernel_rfl) (by kernel_rfl) (by kernel_rfl) (by kernel_rfl) (fun _ _ _ => b2 fun _ _ => by kernel_rfl)
noncomputable def F_least_divisor : List D → Option D := runF p_least_divisor.1 2 1
theorem C_least_divisor {W : Gl} (H : Has W) : Contract W "least_divisor" 4 F_least_divisor := Contract.of H.toFine 1 (at_least_divisor H) (FnS.of (by decide +kernel)) (p_least_divisor.2 W H).h

/- prime_factors -/
noncomputable abbrev L_prime_factors : Lay := [("n", .loc), ("found", .loc), ("prime", .loc), ("many", .loc)]
noncomputable abbrev G_prime_factors : List Str := ["least_divisor"]
noncomputable def p_prime_factors : { g : List S → Option Fl // ∀ W : Gl, Has W → Bx (DenS W 5 L_prime_factors G_prime_factors (fB (stAt 6)) g) } := ⟨_, fun W H => 
    (BS.cons (BO.tupS (k := 4) (names := ["found", "prime"]) (Names.cons 1 rfl (by decide) (by decide) (Names.cons 2 rfl (by decide) (by decide) Names.nil)) (BIts.consF (BF.list BA.nil) (BIts.consE (BE.int _) BIts.nil)))
    (BS.cons (BO.while 100000 (BT.cmp sem_gt (BE.var 0) (BE.int _)) (BS.cons (BO.tupS (k := 4) (names := ["prime", "many"]) (Names.cons 2 rfl (by decide) (by decide) (Names.cons 3 rfl (by decide) (by decide) Names.nil)) (BIts.consE (BE.call H.toOk (C_least_divisor H) (BA.cons (BE.var 0) (BA.cons (BE.var 2) BA.nil))) (BIts.consE (BE.int _) BIts.nil)))
    (BS.cons (BO.while 100000 (BT.cmp sem_eq (BE.bin sem_mod (BE.var 0) (BE.var 2)) (BE.int _)) (BS.one (BO.tupS (k := 4) (names := ["n", "many"]) (Names.cons 0 rfl (by decide) (by decide) (Names.cons 3 rfl (by decide) (by decide) Names.nil)) (BIts.consE (BE.bin sem_fdiv (BE.var 0) (BE.var 2)) (BIts.consE (BE.bin sem_add (BE.var 3) (BE.int _)) BIts.nil)))))
    (BS.cons (BO.append 1 (BE.tup (BA.cons (BE.var 2) (BA.cons (BE.var 3) BA.nil))))
    (BS.one (BO.assign 2 (BE.ite (BT.cmp sem_eq (BE.var 2) (BE.int _)) (BE.int _) (BE.bin sem_add (BE.var 2) (BE.int _)))))))))
    (BS.freeze 1 (BS.one (BO.ret (BE.var 1))))))⟩
theorem at_prime_factors {W : Gl} (H : Has W) : FnAt W "prime_factors" ["n"] (fB (stAt 6)) (fS (stAt 6)) :=
  fnAt_i H 3 6 (by decide +kernel) (by kernel_rfl) (by kernel_rfl) (by kernel_rfl) (by kernel_rfl) (fun _ _ _ => b1 fun _ => by kernel_rfl)
noncomputable def F_prime_factors : List D → Option D := runF p_prime_factors.1 1 3
theorem C_prime_factors {W : Gl} (H : Has W) : Contract W "prime_factors" 6 F_prime_factors := Contract.of H.toFine 3 (at_prime_factors H) (FnS.of (by decide +kernel)) (p_prime_factors.2 W H).h

/- divisors -/
noncomputable abbrev L_divisors : Lay := [("n", .loc), ("found", .loc), ("prime", .cel), ("many", .cel)]
noncomputable abbrev G_divisors : List Str := ["abs", "prime_factors", "sorted"]
noncomputable abbrev L1_divisors : Lay := [("one", .loc), ("times", .loc), ("n", .no), ("found", .no), ("prime", .cel), ("many", .cel)]
noncomputable abbrev G1_divisors : List Str := ["range"]
noncomputable def p_divisors : { g : List S → Option Fl // ∀ W : Gl, Has W → Bx (DenS W 7 L_divisors G_divisors (fB (stAt 7)) g) } := ⟨_, fun W H => 
    (BS.cons (BO.assign 1 (BE.fresh (BF.list (BA.cons (BE.int _) BA.nil))))
    (BS.cons (BO.for (k := 4) (BI.seq (BE.call H.toOk (C_prime_factors H) (BA.cons (BE.callB H.toFine "abs" sem_abs (.inl ⟨_, rfl⟩) (by decide +kernel) (by decide +kernel) boot_abs (BA.cons (BE.var 0) BA.nil) (by decide +kernel) (by decide) rfl) BA.nil))) (BTg.tup (Names.cons 2 rfl (by decide) (by decide) (Names.cons 3 rfl (by decide) (by decide) Names.nil))) (BS.one (BO.comp2E 1 0 1 (Γ' := L1_divisors) (G' := G1_divisors) (tl := 2) (CompS.of (by decide +kernel)) (BI.seq (BE.var 1)) (BI.rng1 H.toFine (BA.cons (BE.bin sem_add (BE.var 5) (BE.int _)) BA.nil)) (BE.bin sem_mul (BE.var 0) (BE.bin sem_pow (BE.var 4) (BE.var 1))))))
    (BS.one (BO.ret (BE.fresh (BF.callB H.toFine "sorted" sem_sorted2 (.inl ⟨_, rfl⟩) (by decide +kernel) (by decide +kernel) boot_sorted (BA.cons (BE.var 1) BA.nil) (by decide +kernel) (by decide) rfl))))))⟩
theorem at_divisors {W : Gl} (H : Has W) : FnAt W "divisors" ["n"] (fB (stAt 7)) (fS (stAt 7)) :=
  fnAt_i H 4 7 (by decide +kernel) (by kernel_rfl) (by kernel_rfl) (by kernel_rfl) (by kernel_rfl) (fun _ _ _ => b1 fun _ => by kernel_rfl)
noncomputable def F_divisors : List D → Option D := runF p_divisors.1 1 3
theorem C_divisors {W : Gl} (H : Has W) : Contract W "divisors" 8 F_divisors := Contract.of H.toFine 3 (at_divisors H) (FnS.of (by decide +kernel)) (p_divisors.2 W H).h

/- candidates -/
noncomputable abbrev L_candidates : Lay := [("f", .loc), ("met", .loc), ("found", .loc), ("bottoms", .loc), ("top", .loc), ("bottom", .loc), ("x", .loc)]
noncomputable abbrev G_candidates : List Str := ["abs", "divisors", "rat", "zdegree"]
noncomputable def p_candidates : { g : List S → Option Fl // ∀ W : Gl, Has W → Bx (DenS W 9 L_candidates G_candidates (fB (stAt 77)) g) } := ⟨_, fun W H => 
    (BS.cons (BO.if (BT.cmp sem_lt (BE.call H.toOk (C_zdegree H) (BA.cons (BE.var 0) BA.nil)) (BE.int _)) (BS.one (BO.ret (BE.fresh (BF.list BA.nil)))) BS.nil)
    (BS.cons (BO.tupS (k := 7) (names := ["met", "found", "bottoms"]) (Names.cons 1 rfl (by decide) (by decide) (Names.cons 2 rfl (by decide) (by decide) (Names.cons 3 rfl (by decide) (by decide) Names.nil))) (BIts.consD H.big (BIts.consF (BF.list BA.nil) (BIts.consE (BE.call H.toOk (C_divisors H) (BA.cons (BE.callB H.toFine "abs" sem_abs (.inl ⟨_, rfl⟩) (by decide +kernel) (by decide +kernel) boot_abs (BA.cons (BE.idx (BE.var 0) (BE.un sem_neg (BE.int _))) BA.nil) (by decide +kernel) (by decide) rfl) BA.nil)) BIts.nil))))
    (BS.cons (BO.for (k := 7) (BI.seq (BE.call H.toOk (C_divisors H) (BA.cons (BE.callB H.toFine "abs" sem_abs (.inl ⟨_, rfl⟩) (by decide +kernel) (by decide +kernel) boot_abs (BA.cons (BE.idx (BE.var 0) (BE.int _)) BA.nil) (by decide +kernel) (by decide) rfl) BA.nil))) (BTg.name 4) (BS.one (BO.for (k := 7) (BI.seq (BE.var 3)) (BTg.name 5) (BS.one (BO.for (k := 7) (BI.seq (BE.tup (BA.cons (BE.call H.toOk (C_rat H) (BA.cons (BE.var 4) (BA.cons (BE.var 5) BA.nil))) (BA.cons (BE.call H.toOk (C_rat H) (BA.cons (BE.un sem_neg (BE.var 4)) (BA.cons (BE.var 5) BA.nil))) BA.nil)))) (BTg.name 6) (BS.one (BO.if (BT.notInD 1 (BE.var 6)) (BS.cons (BO.setDict 1 (BE.bool _) (BE.var 6))
    (BS.one (BO.append 2 (BE.var 6)))) BS.nil)))))))
    (BS.freeze 2 (BS.one (BO.ret (BE.var 2)))))))⟩
theorem at_candidates {W : Gl} (H : Has W) : FnAt W "candidates" ["f"] (fB (stAt 77)) (fS (stAt 77)) :=
  fnAt_i H 63 77 (by decide +kernel) (by kernel_rfl) (by kernel_rfl) (by kernel_rfl) (by kernel_rfl) (fun _ _ _ => b1 fun _ => by kernel_rfl)
noncomputable def F_candidates : List D → Option D := runF p_candidates.1 1 6
theorem C_candidates {W : Gl} (H : Has W) : Contract W "candidates" 10 F_candidates := Contract.of H.toFine 6 (at_candidates H) (FnS.of (by decide +kernel)) (p_candidates.2 W H).h

/- rsub -/
noncomputable abbrev L_rsub : Lay := [("a", .loc), ("b", .loc)]
noncomputable abbrev G_rsub : List Str := ["rat"]
noncomputable def p_rsub : { g : List S → Option Fl // ∀ W : Gl, Has W → Bx (DenS W 7 L_rsub G_rsub (fB (stAt 39)) g) } := ⟨_, fun W H => 
    (BS.one (BO.ret (BE.call H.toOk (C_rat H) (BA.cons (BE.bin sem_sub (BE.bin sem_mul (BE.idx (BE.var 0) (BE.int _)) (BE.idx (BE.var 1) (BE.int _))) (BE.bin sem_mul (BE.idx (BE.var 1) (BE.int _)) (BE.idx (BE.var 0) (BE.int _)))) (BA.cons (BE.bin sem_mul (BE.idx (BE.var 0) (BE.int _)) (BE.idx (BE.var 1) (BE.int _))) BA.nil)))))⟩
theorem at_rsub {W : Gl} (H : Has W) : FnAt W "rsub" ["a", "b"] (fB (stAt 39)) (fS (stAt 39)) :=
  fnAt_i H 30 39 (by decide +kernel) (by kernel_rfl) (by kernel_rfl) (by kernel_rfl) (by kernel_rfl) (fun _ _ _ => b2 fun _ _ => by kernel_rfl)
noncomputable def F_rsub : List D → Option D := runF p_rsub.1 2 0
theorem C_rsub {W : Gl} (H : Has W) : Contract W "rsub" 8 F_rsub := Contract.of H.toFine 0 (at_rsub H) (FnS.of (by decide +kernel)) (p_rsub.2 W H).h

/- refine -/
noncomputable abbrev L_refine : Lay := [("f", .loc), ("interval", .loc), ("width", .loc), ("left", .loc)]
noncomputable abbrev G_refine : List Str := ["CasFail", "R0", "halved", "rcompare", "rsub", "simple_part"]
noncomputable def p_refine : { g : List S → Option Fl // ∀ W : Gl, Has W → Bx (DenS W 19 L_refine G_refine (fB (stAt 74)) g) } := ⟨_, fun W H => 
    (BS.cons (BO.if (BT.cmp sem_le (BE.call H.toOk (C_rcompare H) (BA.cons (BE.var 2) (BA.cons (BE.glob H.toOk (K_R0 H)) BA.nil))) (BE.int _)) BS.stuck BS.nil)
    (BS.cons (BO.assign 3 (BE.call H.toOk (C_simple_part H) (BA.cons (BE.var 0) BA.nil)))
    (BS.cons (BO.while 100000 (BT.cmp sem_gt (BE.call H.toOk (C_rcompare H) (BA.cons (BE.call H.toOk (C_rsub H) (BA.cons (BE.idx (BE.var 1) (BE.int _)) (BA.cons (BE.idx (BE.var 1) (BE.int _)) BA.nil))) (BA.cons (BE.var 2) BA.nil))) (BE.int _)) (BS.one (BO.assign 1 (BE.call H.toOk (C_halved H) (BA.cons (BE.var 3) (BA.cons (BE.var 1) BA.nil))))))
    (BS.one (BO.ret (BE.var 1))))))⟩
theorem at_refine {W : Gl} (H : Has W) : FnAt W "refine" ["f", "interval", "width"] (fB (stAt 74)) (fS (stAt 74)) :=
  fnAt_i H 60 74 (by decide +kernel) (by kernel_rfl) (by kernel_rfl) (by kernel_rfl) (by kernel_rfl) (fun _ _ _ => b3 fun _ _ _ => by kernel_rfl)
noncomputable def F_refine : List D → Option D := runF p_refine.1 3 1
theorem C_refine {W : Gl} (H : Has W) : Contract W "refine" 20 F_refine := Contract.of H.toFine 1 (at_refine H) (FnS.of (by decide +kernel)) (p_refine.2 W H).h

/- rfloor -/
noncomputable abbrev L_rfloor : Lay := [("a", .loc)]
noncomputable abbrev G_rfloor : List Str := []
noncomputable def p_rfloor : { g : List S → Option Fl // ∀ W : Gl, Has W → Bx (DenS W 3 L_rfloor G_rfloor (fB (stAt 45)) g) } := ⟨_, fun W H => 
    (BS.one (BO.ret (BE.bin sem_fdiv (BE.idx (BE.var 0) (BE.int _)) (BE.idx (BE.var 0) (BE.int _)))))⟩
theorem at_rfloor {W : Gl} (H : Has W) : FnAt W "rfloor" ["a"] (fB (stAt 45)) (fS (stAt 45)) :=
  fnAt_i H 36 45 (by decide +kernel) (by kernel_rfl) (by kernel_rfl) (by kernel_rfl) (by kernel_rfl) (fun _ _ _ => b1 fun _ => by kernel_rfl)
noncomputable def F_rfloor : List D → Option D := runF p_rfloor.1 1 0
theorem C_rfloor {W : Gl} (H : Has W) : Contract W "rfloor" 4 F_rfloor := Contract.of H.toFine 0 (at_rfloor H) (FnS.of (by decide +kernel)) (p_rfloor.2 W H).h

/- tried_roots -/
noncomputable abbrev L_tried_roots : Lay := [("f", .loc), ("found", .loc), ("lead", .loc), ("interval", .loc), ("high", .loc)]
noncomputable abbrev G_tried_roots : List Str := ["MOST_DIVIDED", "abs", "candidates", "isolate", "max", "rat", "refine", "rfloor", "rmul", "zdegree"]
noncomputable def p_tried_roots : { g : List S → Option Fl // ∀ W : Gl, Has W → Bx (DenS W 21 L_tried_roots G_tried_roots (fB (stAt 76)) g) } := ⟨_, fun W H => 
    (BS.cons (BO.if (BT.cmp sem_eq (BE.call H.toOk (C_zdegree H) (BA.cons (BE.var 0) BA.nil)) (BE.int _)) (BS.one (BO.ret (BE.fresh (BF.list (BA.cons (BE.call H.toOk (C_rat H) (BA.cons (BE.un sem_neg (BE.idx (BE.var 0) (BE.int _))) (BA.cons (BE.idx (BE.var 0) (BE.int _)) BA.nil))) BA.nil))))) BS.nil)
    (BS.cons (BO.if (BT.or (BT.cmp sem_lt (BE.call H.toOk (C_zdegree H) (BA.cons (BE.var 0) BA.nil)) (BE.int _)) (BT.cmp sem_le (BE.callB H.toFine "max" sem_max2 (.inl ⟨_, rfl⟩) (by decide +kernel) (by decide +kernel) boot_max (BA.cons (BE.callB H.toFine "abs" sem_abs (.inl ⟨_, rfl⟩) (by decide +kernel) (by decide +kernel) boot_abs (BA.cons (BE.idx (BE.var 0) (BE.int _)) BA.nil) (by decide +kernel) (by decide) rfl) (BA.cons (BE.callB H.toFine "abs" sem_abs (.inl ⟨_, rfl⟩) (by decide +kernel) (by decide +kernel) boot_abs (BA.cons (BE.idx (BE.var 0) (BE.un sem_neg (BE.int _))) BA.nil) (by decide +kernel) (by decide) rfl) BA.nil)) (by decide +kernel) (by decide) rfl) (BE.glob H.toOk (K_MOST_DIVIDED H)))) (BS.one (BO.ret (BE.call H.toOk (C_candidates H) (BA.cons (BE.var 0) BA.nil)))) BS.nil)
    (BS.cons (BO.tupS (k := 5) (names := ["found", "lead"]) (Names.cons 1 rfl (by decide) (by decide) (Names.cons 2 rfl (by decide) (by decide) Names.nil)) (BIts.consF (BF.list BA.nil) (BIts.consE (BE.callB H.toFine "abs" sem_abs (.inl ⟨_, rfl⟩) (by decide +kernel) (by decide +kernel) boot_abs (BA.cons (BE.idx (BE.var 0) (BE.un sem_neg (BE.int _))) BA.nil) (by decide +kernel) (by decide) rfl) BIts.nil)))
    (BS.cons (BO.for (k := 5) (BI.seq (BE.call H.toOk (C_isolate H) (BA.cons (BE.var 0) BA.nil))) (BTg.name 3) (BS.cons (BO.assign 4 (BE.idx (BE.call H.toOk (C_refine H) (BA.cons (BE.var 0) (BA.cons (BE.var 3) (BA.cons (BE.tup (BA.cons (BE.int _) (BA.cons (BE.bin sem_mul (BE.int _) (BE.var 2)) BA.nil))) BA.nil)))) (BE.int _)))
    (BS.one (BO.append 1 (BE.call H.toOk (C_rat H) (BA.cons (BE.call H.toOk (C_rfloor H) (BA.cons (BE.call H.toOk (C_rmul H) (BA.cons (BE.var 4) (BA.cons (BE.tup (BA.cons (BE.var 2) (BA.cons (BE.int _) BA.nil))) BA.nil))) BA.nil)) (BA.cons (BE.var 2) BA.nil)))))))
    (BS.freeze 1 (BS.one (BO.ret (BE.var 1))))))))⟩
theorem at_tried_roots {W : Gl} (H : Has W) : FnAt W "tried_roots" ["f"] (fB (stAt 76)) (fS (stAt 76)) :=
  fnAt_i H 62 76 (by decide +kernel) (by kernel_rfl) (by kernel_rfl) (by kernel_rfl) (by kernel_rfl) (fun _ _ _ => b1 fun _ => by kernel_rfl)
noncomputable def F_tried_roots : List D → Option D := runF p_tried_roots.1 1 4
theorem C_tried_roots {W : Gl} (H : Has W) : Contract W "tried_roots" 22 F_tried_roots := Contract.of H.toFine 4 (at_tried_roots H) (FnS.of (by decide +kernel)) (p_tried_roots.2 W H).h

/- sorted_roots -/
noncomputable abbrev L_sorted_roots : Lay := [("pairs", .loc), ("found", .loc), ("pair", .loc), ("at", .loc)]
noncomputable abbrev G_sorted_roots : List Str := ["len", "rcompare"]
noncomputable def p_sorted_roots : { g : List S → Option Fl // ∀ W : Gl, Has W → Bx (DenS W 5 L_sorted_roots G_sorted_roots (fB (stAt 78)) g) } := ⟨_, fun W H => 
    (BS.cons (BO.assignF 1 (BF.list BA.nil))
    (BS.cons (BO.for (k := 4) (BI.seq (BE.var 0)) (BTg.name 2) (BS.cons (BO.assign 3 (BE.int _))
    (BS.cons (BO.while 100000 (BT.and (BT.cmp sem_lt (BE.var 3) (BE.olen H.toFine 1)) (BT.cmp sem_lt (BE.call H.toOk (C_rcompare H) (BA.cons (BE.idx (BE.oidx 1 (BE.var 3)) (BE.int _)) (BA.cons (BE.idx (BE.var 2) (BE.int _)) BA.nil))) (BE.int _))) (BS.one (BO.aug 3 sem_iadd (BE.int _))))
    (BS.one (BO.insert 1 (BE.var 3) (BE.var 2))))))
    (BS.freeze 1 (BS.one (BO.ret (BE.var 1))))))⟩
theorem at_sorted_roots {W : Gl} (H : Has W) : FnAt W "sorted_roots" ["pairs"] (fB (stAt 78)) (fS (stAt 78)) :=
  fnAt_i H 64 78 (by decide +kernel) (by kernel_rfl) (by kernel_rfl) (by kernel_rfl) (by kernel_rfl) (fun _ _ _ => b1 fun _ => by kernel_rfl)
noncomputable def F_sorted_roots : List D → Option D := runF p_sorted_roots.1 1 3
theorem C_sorted_roots {W : Gl} (H : Has W) : Contract W "sorted_roots" 6 F_sorted_roots := Contract.of H.toFine 3 (at_sorted_roots H) (FnS.of (by decide +kernel)) (p_sorted_roots.2 W H).h

/- rational_roots -/
noncomputable abbrev L_rational_roots : Lay := [("f", .loc), ("left", .loc), ("found", .loc), ("x", .loc), ("many", .loc)]
noncomputable abbrev G_rational_roots : List Str := ["len", "linear_of", "sorted_roots", "tried_roots", "value_sign", "zdegree", "zexact"]
noncomputable def p_rational_roots : { g : List S → Option Fl // ∀ W : Gl, Has W → Bx (DenS W 23 L_rational_roots G_rational_roots (fB (stAt 75)) g) } := ⟨_, fun W H => 
    (BS.cons (BO.tupS (k := 5) (names := ["left", "found"]) (Names.cons 1 rfl (by decide) (by decide) (Names.cons 2 rfl (by decide) (by decide) Names.nil)) (BIts.consE (BE.var 0) (BIts.consF (BF.list BA.nil) BIts.nil)))
    (BS.cons (BO.while 100000 (BT.and (BT.cmp sem_gt (BE.len H.toFine (BA.cons (BE.var 1) BA.nil)) (BE.int _)) (BT.cmp sem_eq (BE.idx (BE.var 1) (BE.int _)) (BE.int _))) (BS.one (BO.assign 1 (BE.fresh (BF.sliceL (BE.var 1) (BE.int _))))))
    (BS.cons (BO.if (BT.cmp sem_lt (BE.len H.toFine (BA.cons (BE.var 1) BA.nil)) (BE.len H.toFine (BA.cons (BE.var 0) BA.nil))) (BS.one (BO.append 2 (BE.tup (BA.cons (BE.tup (BA.cons (BE.int _) (BA.cons (BE.int _) BA.nil))) (BA.cons (BE.bin sem_sub (BE.len H.toFine (BA.cons (BE.var 0) BA.nil)) (BE.len H.toFine (BA.cons (BE.var 1) BA.nil))) BA.nil))))) BS.nil)
    (BS.cons (BO.for (k := 5) (BI.seq (BE.call H.toOk (C_tried_roots H) (BA.cons (BE.var 1) BA.nil))) (BTg.name 3) (BS.cons (BO.assign 4 (BE.int _))
    (BS.cons (BO.while 100000 (BT.and (BT.cmp sem_gt (BE.call H.toOk (C_zdegree H) (BA.cons (BE.var 1) BA.nil)) (BE.int _)) (BT.cmp sem_eq (BE.call H.toOk (C_value_sign H) (BA.cons (BE.var 1) (BA.cons (BE.var 3) BA.nil))) (BE.int _))) (BS.cons (BO.assign 1 (BE.call H.toOk (C_zexact H) (BA.cons (BE.var 1) (BA.cons (BE.call H.toOk (C_linear_of H) (BA.cons (BE.var 3) BA.nil)) BA.nil))))
    (BS.one (BO.aug 4 sem_iadd (BE.int _)))))
    (BS.one (BO.if (BT.cmp sem_gt (BE.var 4) (BE.int _)) (BS.one (BO.append 2 (BE.tup (BA.cons (BE.var 3) (BA.cons (BE.var 4) BA.nil))))) BS.nil)))))
    (BS.freeze 2 (BS.one (BO.ret (BE.call H.toOk (C_sorted_roots H) (BA.cons (BE.var 2) BA.nil)))))))))⟩
theorem at_rational_roots {W : Gl} (H : Has W) : FnAt W "rational_roots" ["f"] (fB (stAt 75)) (fS (stAt 75)) :=
  fnAt_i H 61 75 (by decide +kernel) (by kernel_rfl) (by kernel_rfl) (by kernel_rfl) (by kernel_rfl) (fun _ _ _ => b1 fun _ => by kernel_rfl)
noncomputable def F_rational_roots : List D → Option D := runF p_rational_roots.1 1 4
theorem C_rational_roots {W : Gl} (H : Has W) : Contract W "rational_roots" 24 F_rational_roots := Contract.of H.toFine 4 (at_rational_roots H) (FnS.of (by decide +kernel)) (p_rational_roots.2 W H).h

/- zmul -/
noncomputable abbrev L_zmul : Lay := [("a", .loc), ("b", .loc), ("found", .loc), ("one", .loc), ("left", .loc), ("other", .loc), ("right", .loc)]
noncomputable abbrev G_zmul : List Str := ["enumerate", "len"]
noncomputable def p_zmul : { g : List S → Option Fl // ∀ W : Gl, Has W → Bx (DenS W 3 L_zmul G_zmul (fB (stAt 17)) g) } := ⟨_, fun W H => 
    (BS.cons (BO.if (BT.or (BT.cmp sem_eq (BE.len H.toFine (BA.cons (BE.var 0) BA.nil)) (BE.int _)) (BT.cmp sem_eq (BE.len H.toFine (BA.cons (BE.var 1) BA.nil)) (BE.int _))) (BS.one (BO.ret (BE.fresh (BF.list BA.nil)))) BS.nil)
    (BS.cons (BO.assignF 2 (BF.bin sem_mulF (BE.fresh (BF.list (BA.cons (BE.int _) BA.nil))) (BE.bin sem_sub (BE.bin sem_add (BE.len H.toFine (BA.cons (BE.var 0) BA.nil)) (BE.len H.toFine (BA.cons (BE.var 1) BA.nil))) (BE.int _))))
    (BS.cons (BO.for (k := 7) (BI.enum H.toFine (BA.cons (BE.var 0) BA.nil)) (BTg.tup (Names.cons 3 rfl (by decide) (by decide) (Names.cons 4 rfl (by decide) (by decide) Names.nil))) (BS.one (BO.if (BT.cmp sem_ne (BE.var 4) (BE.int _)) (BS.one (BO.for (k := 7) (BI.enum H.toFine (BA.cons (BE.var 1) BA.nil)) (BTg.tup (Names.cons 5 rfl (by decide) (by decide) (Names.cons 6 rfl (by decide) (by decide) Names.nil))) (BS.one (BO.augItem 2 sem_iadd (BE.bin sem_mul (BE.var 4) (BE.var 6)) (BE.bin sem_add (BE.var 3) (BE.var 5)))))) BS.nil)))
    (BS.freeze 2 (BS.one (BO.ret (BE.var 2)))))))⟩
theorem at_zmul {W : Gl} (H : Has W) : FnAt W "zmul" ["a", "b"] (fB (stAt 17)) (fS (stAt 17)) :=
  fnAt_i H 13 17 (by decide +kernel) (by kernel_rfl) (by kernel_rfl) (by kernel_rfl) (by kernel_rfl) (fun _ _ _ => b2 fun _ _ => by kernel_rfl)
noncomputable def F_zmul : List D → Option D := runF p_zmul.1 2 5
theorem C_zmul {W : Gl} (H : Has W) : Contract W "zmul" 4 F_zmul := Contract.of H.toFine 5 (at_zmul H) (FnS.of (by decide +kernel)) (p_zmul.2 W H).h

/- told_by -/
noncomputable abbrev L_told_by : Lay := [("differences", .loc), ("found", .loc), ("below", .loc), ("at", .loc)]
noncomputable abbrev G_told_by : List Str := ["len", "range", "zadd", "zmul", "zprimitive"]
noncomputable def p_told_by : { g : List S → Option Fl // ∀ W : Gl, Has W → Bx (DenS W 11 L_told_by G_told_by (fB (stAt 86)) g) } := ⟨_, fun W H => 
    (BS.cons (BO.tupS (k := 4) (names := ["found", "below"]) (Names.cons 1 rfl (by decide) (by decide) (Names.cons 2 rfl (by decide) (by decide) Names.nil)) (BIts.consE (BE.fresh (BF.list BA.nil)) (BIts.consE (BE.int _) BIts.nil)))
    (BS.cons (BO.for (k := 4) (BI.rng3 H.toFine (BA.cons (BE.bin sem_sub (BE.len H.toFine (BA.cons (BE.var 0) BA.nil)) (BE.int _)) (BA.cons (BE.un sem_neg (BE.int _)) (BA.cons (BE.un sem_neg (BE.int _)) BA.nil)))) (BTg.name 3) (BS.cons (BO.assign 2 (BE.bin sem_mul (BE.var 2) (BE.bin sem_add (BE.var 3) (BE.int _))))
    (BS.one (BO.assign 1 (BE.call H.toOk (C_zadd H) (BA.cons (BE.fresh (BF.list (BA.cons (BE.bin sem_mul (BE.idx (BE.var 0) (BE.var 3)) (BE.var 2)) BA.nil))) (BA.cons (BE.call H.toOk (C_zmul H) (BA.cons (BE.fresh (BF.list (BA.cons (BE.bin sem_sub (BE.int _) (BE.var 3)) (BA.cons (BE.int _) BA.nil)))) (BA.cons (BE.var 1) BA.nil))) BA.nil)))))))
    (BS.one (BO.ret (BE.call H.toOk (C_zprimitive H) (BA.cons (BE.var 1) BA.nil))))))⟩
theorem at_told_by {W : Gl} (H : Has W) : FnAt W "told_by" ["differences"] (fB (stAt 86)) (fS (stAt 86)) :=
  fnAt_i H 67 86 (by decide +kernel) (by kernel_rfl) (by kernel_rfl) (by kernel_rfl) (by kernel_rfl) (fun _ _ _ => b1 fun _ => by kernel_rfl)
noncomputable def F_told_by : List D → Option D := runF p_told_by.1 1 3
theorem C_told_by {W : Gl} (H : Has W) : Contract W "told_by" 12 F_told_by := Contract.of H.toFine 3 (at_told_by H) (FnS.of (by decide +kernel)) (p_told_by.2 W H).h

/- whole_zeros -/
noncomputable abbrev L_whole_zeros : Lay := [("differences", .loc), ("last", .cel), ("many", .loc)]
noncomputable abbrev G_whole_zeros : List Str := ["CasFail", "MOST_NUMBERS", "MOST_TOLD", "MOST_WALKED", "len", "rational_roots", "told_by", "zeros_on"]
noncomputable abbrev L1_whole_zeros : Lay := [("x", .loc), ("many", .loc), ("differences", .no), ("last", .cel), ("many", .no)]
noncomputable abbrev G1_whole_zeros : List Str := []
noncomputable def p_whole_zeros : { g : List S → Option Fl // ∀ W : Gl, Has W → Bx (DenS W 25 L_whole_zeros G_whole_zeros (fB (stAt 87)) g) } := ⟨_, fun W H => 
    (BS.cons (BO.assign 2 (BE.len H.toFine (BA.cons (BE.var 0) BA.nil)))
    (BS.cons (BO.if (BT.or (BT.cmp sem_le (BE.var 1) (BE.glob H.toOk (K_MOST_WALKED H))) (BT.and (BT.cmp sem_gt (BE.var 2) (BE.glob H.toOk (K_MOST_TOLD H))) (BT.cmp sem_le (BE.bin sem_mul (BE.var 1) (BE.var 2)) (BE.glob H.toOk (K_MOST_NUMBERS H))))) (BS.one (BO.ret (BE.call H.toOk (C_zeros_on H) (BA.cons (BE.var 0) (BA.cons (BE.var 1) BA.nil))))) BS.nil)
    (BS.cons (BO.if (BT.cmp sem_gt (BE.var 2) (BE.glob H.toOk (K_MOST_TOLD H))) BS.stuck BS.nil)
    (BS.one (BO.ret (BE.fresh (BF.comp (Γ' := L1_whole_zeros) (G' := G1_whole_zeros) (tl := 2) (CompS.of (by decide +kernel)) (BI.seq (BE.call H.toOk (C_rational_roots H) (BA.cons (BE.call H.toOk (C_told_by H) (BA.cons (BE.var 0) BA.nil)) BA.nil))) (BTg.tup (Names.cons 0 rfl (by decide) (by decide) (Names.cons 1 rfl (by decide) (by decide) Names.nil))) (BIfs.one (BT.and (BT.cmp sem_eq (BE.idx (BE.var 0) (BE.int _)) (BE.int _)) (BT.chain2 sem_le sem_le (BE.int _) (BE.idx (BE.var 0) (BE.int _)) (BE.var 3)))) (BE.idx (BE.var 0) (BE.int _)))))))))⟩
theorem at_whole_zeros {W : Gl} (H : Has W) : FnAt W "whole_zeros" ["differences", "last"] (fB (stAt 87)) (fS (stAt 87)) :=
  fnAt_i H 68 87 (by decide +kernel) (by kernel_rfl) (by kernel_rfl) (by kernel_rfl) (by kernel_rfl) (fun _ _ _ => b2 fun _ _ => by kernel_rfl)
noncomputable def F_whole_zeros : List D → Option D := runF p_whole_zeros.1 2 1
theorem C_whole_zeros {W : Gl} (H : Has W) : Contract W "whole_zeros" 26 F_whole_zeros := Contract.of H.toFine 1 (at_whole_zeros H) (FnS.of (by decide +kernel)) (p_whole_zeros.2 W H).h

/- full_rest -/
noncomputable abbrev L_full_rest : Lay := [("a", .loc), ("b", .cel), ("quotient", .loc), ("rest", .loc), ("power", .loc), ("lacking", .cel)]
noncomputable abbrev G_full_rest : List Str := ["pseudo", "zdegree"]
noncomputable abbrev L1_full_rest : Lay := [("coefficient", .loc), ("a", .no), ("b", .cel), ("quotient", .no), ("rest", .no), ("power", .no), ("lacking", .cel)]
noncomputable abbrev G1_full_rest : List Str := ["zlead"]
noncomputable def p_full_rest : { g : List S → Option Fl // ∀ W : Gl, Has W → Bx (DenS W 11 L_full_rest G_full_rest (fB (stAt 31)) g) } := ⟨_, fun W H => 
    (BS.cons (BO.tupV (k := 6) (Names.cons 2 rfl (by decide) (by decide) (Names.cons 3 rfl (by decide) (by decide) (Names.cons 4 rfl (by decide) (by decide) Names.nil))) (BE.call H.toOk (C_pseudo H) (BA.cons (BE.var 0) (BA.cons (BE.var 1) BA.nil))))
    (BS.cons (BO.assign 5 (BE.bin sem_sub (BE.bin sem_add (BE.bin sem_sub (BE.call H.toOk (C_zdegree H) (BA.cons (BE.var 0) BA.nil)) (BE.call H.toOk (C_zdegree H) (BA.cons (BE.var 1) BA.nil))) (BE.int _)) (BE.var 4)))
    (BS.one (BO.ret (BE.fresh (BF.comp (Γ' := L1_full_rest) (G' := G1_full_rest) (tl := 1) (CompS.of (by decide +kernel)) (BI.seq (BE.var 3)) (BTg.name 0) BIfs.nil (BE.bin sem_mul (BE.var 0) (BE.bin sem_pow (BE.call H.toOk (C_zlead H) (BA.cons (BE.var 2) BA.nil)) (BE.var 6)))))))))⟩
theorem at_full_rest {W : Gl} (H : Has W) : FnAt W "full_rest" ["a", "b"] (fB (stAt 31)) (fS (stAt 31)) :=
  fnAt_i H 25 31 (by decide +kernel) (by kernel_rfl) (by kernel_rfl) (by kernel_rfl) (by kernel_rfl) (fun _ _ _ => b2 fun _ _ => by kernel_rfl)
noncomputable def F_full_rest : List D → Option D := runF p_full_rest.1 2 4
theorem C_full_rest {W : Gl} (H : Has W) : Contract W "full_rest" 12 F_full_rest := Contract.of H.toFine 4 (at_full_rest H) (FnS.of (by decide +kernel)) (p_full_rest.2 W H).h

/- divided -/
noncomputable abbrev L_divided : Lay := [("p", .loc), ("number", .cel)]
noncomputable abbrev G_divided : List Str := []
noncomputable abbrev L1_divided : Lay := [("coefficient", .loc), ("p", .no), ("number", .cel)]
noncomputable abbrev G1_divided : List Str := []
noncomputable def p_divided : { g : List S → Option Fl // ∀ W : Gl, Has W → Bx (DenS W 3 L_divided G_divided (fB (stAt 30)) g) } := ⟨_, fun W H => 
    (BS.one (BO.ret (BE.fresh (BF.comp (Γ' := L1_divided) (G' := G1_divided) (tl := 1) (CompS.of (by decide +kernel)) (BI.seq (BE.var 0)) (BTg.name 0) BIfs.nil (BE.bin sem_fdiv (BE.var 0) (BE.var 2))))))⟩
theorem at_divided {W : Gl} (H : Has W) : FnAt W "divided" ["p", "number"] (fB (stAt 30)) (fS (stAt 30)) :=
  fnAt_i H 24 30 (by decide +kernel) (by kernel_rfl) (by kernel_rfl) (by kernel_rfl) (by kernel_rfl) (fun _ _ _ => b2 fun _ _ => by kernel_rfl)
noncomputable def F_divided : List D → Option D := runF p_divided.1 2 0
theorem C_divided {W : Gl} (H : Has W) : Contract W "divided" 4 F_divided := Contract.of H.toFine 0 (at_divided H) (FnS.of (by decide +kernel)) (p_divided.2 W H).h

/- row_resultant -/
noncomputable abbrev L_row_resultant : Lay := [("a", .loc), ("b", .loc), ("sign", .loc), ("g", .loc), ("h", .loc), ("gap", .loc), ("rest", .loc), ("many", .loc)]
noncomputable abbrev G_row_resultant : List Str := ["divided", "full_rest", "zdegree", "zlead"]
noncomputable def p_row_resultant : { g : List S → Option Fl // ∀ W : Gl, Has W → Bx (DenS W 13 L_row_resultant G_row_resultant (fB (stAt 32)) g) } := ⟨_, fun W H => 
    (BS.cons (BO.tupP (k := 8) (Names.cons 3 rfl (by decide) (by decide) (Names.cons 4 rfl (by decide) (by decide) Names.nil)) (BIts.consE (BE.int _) (BIts.consE (BE.int _) BIts.nil)))
    (BS.cons (BO.while 100000 (BT.cmp sem_gt (BE.call H.toOk (C_zdegree H) (BA.cons (BE.var 1) BA.nil)) (BE.int _)) (BS.cons (BO.assign 5 (BE.bin sem_sub (BE.call H.toOk (C_zdegree H) (BA.cons (BE.var 0) BA.nil)) (BE.call H.toOk (C_zdegree H) (BA.cons (BE.var 1) BA.nil))))
    (BS.cons (BO.if (BT.and (BT.cmp sem_eq (BE.bin sem_mod (BE.call H.toOk (C_zdegree H) (BA.cons (BE.var 0) BA.nil)) (BE.int _)) (BE.int _)) (BT.cmp sem_eq (BE.bin sem_mod (BE.call H.toOk (C_zdegree H) (BA.cons (BE.var 1) BA.nil)) (BE.int _)) (BE.int _))) (BS.one (BO.assign 2 (BE.un sem_neg (BE.var 2)))) BS.nil)
    (BS.cons (BO.assign 6 (BE.call H.toOk (C_full_rest H) (BA.cons (BE.var 0) (BA.cons (BE.var 1) BA.nil))))
    (BS.cons (BO.tupS (k := 8) (names := ["a", "b"]) (Names.cons 0 rfl (by decide) (by decide) (Names.cons 1 rfl (by decide) (by decide) Names.nil)) (BIts.consE (BE.var 1) (BIts.consE (BE.call H.toOk (C_divided H) (BA.cons (BE.var 6) (BA.cons (BE.bin sem_mul (BE.var 3) (BE.bin sem_pow (BE.var 4) (BE.var 5))) BA.nil))) BIts.nil)))
    (BS.cons (BO.assign 3 (BE.call H.toOk (C_zlead H) (BA.cons (BE.var 0) BA.nil)))
    (BS.one (BO.if (BT.cmp sem_gt (BE.var 5) (BE.int _)) (BS.one (BO.assign 4 (BE.bin sem_fdiv (BE.bin sem_pow (BE.var 3) (BE.var 5)) (BE.bin sem_pow (BE.var 4) (BE.bin sem_sub (BE.var 5) (BE.int _)))))) BS.nil))))))))
    (BS.cons (BO.if (BT.cmp sem_eq (BE.var 1) (BE.fresh (BF.list BA.nil))) (BS.one (BO.ret (BE.int _))) BS.nil)
    (BS.cons (BO.assign 7 (BE.call H.toOk (C_zdegree H) (BA.cons (BE.var 0) BA.nil)))
    (BS.one (BO.ret (BE.bin sem_mul (BE.var 2) (BE.ite (BT.cmp sem_gt (BE.var 7) (BE.int _)) (BE.bin sem_fdiv (BE.bin sem_pow (BE.idx (BE.var 1) (BE.int _)) (BE.var 7)) (BE.bin sem_pow (BE.var 4) (BE.bin sem_sub (BE.var 7) (BE.int _)))) (BE.int _)))))))))⟩
theorem at_row_resultant {W : Gl} (H : Has W) : FnAt W "row_resultant" ["a", "b", "sign"] (fB (stAt 32)) (fS (stAt 32)) :=
  fnAt_i H 26 32 (by decide +kernel) (by kernel_rfl) (by kernel_rfl) (by kernel_rfl) (by kernel_rfl) (fun _ _ _ => b3 fun _ _ _ => by kernel_rfl)
noncomputable def F_row_resultant : List D → Option D := runF p_row_resultant.1 3 5
theorem C_row_resultant {W : Gl} (H : Has W) : Contract W "row_resultant" 14 F_row_resultant := Contract.of H.toFine 5 (at_row_resultant H) (FnS.of (by decide +kernel)) (p_row_resultant.2 W H).h

/- resultant -/
noncomputable abbrev L_resultant : Lay := [("a", .loc), ("b", .loc), ("sign", .loc), ("one", .loc), ("other", .loc), ("shared", .loc)]
noncomputable abbrev G_resultant : List Str := ["divided", "row_resultant", "zcontent", "zdegree"]
noncomputable def p_resultant : { g : List S → Option Fl // ∀ W : Gl, Has W → Bx (DenS W 15 L_resultant G_resultant (fB (stAt 33)) g) } := ⟨_, fun W H => 
    (BS.cons (BO.if (BT.or (BT.cmp sem_eq (BE.var 0) (BE.fresh (BF.list BA.nil))) (BT.cmp sem_eq (BE.var 1) (BE.fresh (BF.list BA.nil)))) (BS.one (BO.ret (BE.int _))) BS.nil)
    (BS.cons (BO.assign 2 (BE.int _))
    (BS.cons (BO.if (BT.cmp sem_lt (BE.call H.toOk (C_zdegree H) (BA.cons (BE.var 0) BA.nil)) (BE.call H.toOk (C_zdegree H) (BA.cons (BE.var 1) BA.nil))) (BS.cons (BO.tupS (k := 6) (names := ["a", "b"]) (Names.cons 0 rfl (by decide) (by decide) (Names.cons 1 rfl (by decide) (by decide) Names.nil)) (BIts.consE (BE.var 1) (BIts.consE (BE.var 0) BIts.nil)))
    (BS.one (BO.assign 2 (BE.ite (BT.and (BT.cmp sem_eq (BE.bin sem_mod (BE.call H.toOk (C_zdegree H) (BA.cons (BE.var 0) BA.nil)) (BE.int _)) (BE.int _)) (BT.cmp sem_eq (BE.bin sem_mod (BE.call H.toOk (C_zdegree H) (BA.cons (BE.var 1) BA.nil)) (BE.int _)) (BE.int _))) (BE.un sem_neg (BE.int _)) (BE.int _))))) BS.nil)
    (BS.cons (BO.tupS (k := 6) (names := ["one", "other"]) (Names.cons 3 rfl (by decide) (by decide) (Names.cons 4 rfl (by decide) (by decide) Names.nil)) (BIts.consE (BE.call H.toOk (C_zcontent H) (BA.cons (BE.var 0) BA.nil)) (BIts.consE (BE.call H.toOk (C_zcontent H) (BA.cons (BE.var 1) BA.nil)) BIts.nil)))
    (BS.cons (BO.assign 5 (BE.bin sem_mul (BE.bin sem_pow (BE.var 3) (BE.call H.toOk (C_zdegree H) (BA.cons (BE.var 1) BA.nil))) (BE.bin sem_pow (BE.var 4) (BE.call H.toOk (C_zdegree H) (BA.cons (BE.var 0) BA.nil)))))
    (BS.one (BO.ret (BE.bin sem_mul (BE.var 5) (BE.call H.toOk (C_row_resultant H) (BA.cons (BE.call H.toOk (C_divided H) (BA.cons (BE.var 0) (BA.cons (BE.var 3) BA.nil))) (BA.cons (BE.call H.toOk (C_divided H) (BA.cons (BE.var 1) (BA.cons (BE.var 4) BA.nil))) (BA.cons (BE.var 2) BA.nil))))))))))))⟩
theorem at_resultant {W : Gl} (H : Has W) : FnAt W "resultant" ["a", "b"] (fB (stAt 33)) (fS (stAt 33)) :=
  fnAt_i H 27 33 (by decide +kernel) (by kernel_rfl) (by kernel_rfl) (by kernel_rfl) (by kernel_rfl) (fun _ _ _ => b2 fun _ _ => by kernel_rfl)
noncomputable def F_resultant : List D → Option D := runF p_resultant.1 2 4
theorem C_resultant {W : Gl} (H : Has W) : Contract W "resultant" 16 F_resultant := Contract.of H.toFine 4 (at_resultant H) (FnS.of (by decide +kernel)) (p_resultant.2 W H).h

/- first_differences -/
noncomputable abbrev L_first_differences : Lay := [("numbers", .cel), ("found", .loc)]
noncomputable abbrev G_first_differences : List Str := ["len", "range"]
noncomputable abbrev L1_first_differences : Lay := [("at", .loc), ("numbers", .cel), ("found", .no)]
noncomputable abbrev G1_first_differences : List Str := []
noncomputable def p_first_differences : { g : List S → Option Fl // ∀ W : Gl, Has W → Bx (DenS W 3 L_first_differences G_first_differences (fB (stAt 84)) g) } := ⟨_, fun W H => 
    (BS.cons (BO.assignF 1 (BF.list BA.nil))
    (BS.cons (BO.while 100000 (BT.cmp sem_gt (BE.len H.toFine (BA.cons (BE.var 0) BA.nil)) (BE.int _)) (BS.cons (BO.append 1 (BE.idx (BE.var 0) (BE.int _)))
    (BS.one (BO.assign 0 (BE.fresh (BF.comp (Γ' := L1_first_differences) (G' := G1_first_differences) (tl := 1) (CompS.of (by decide +kernel)) (BI.rng1 H.toFine (BA.cons (BE.bin sem_sub (BE.len H.toFine (BA.cons (BE.var 0) BA.nil)) (BE.int _)) BA.nil)) (BTg.name 0) BIfs.nil (BE.bin sem_sub (BE.idx (BE.var 1) (BE.bin sem_add (BE.var 0) (BE.int _))) (BE.idx (BE.var 1) (BE.var 0))))) (hs := fun _ es => swaps_cel (i := 0) es rfl)))))
    (BS.freeze 1 (BS.one (BO.ret (BE.var 1))))))⟩
theorem at_first_differences {W : Gl} (H : Has W) : FnAt W "first_differences" ["numbers"] (fB (stAt 84)) (fS (stAt 84)) :=
  fnAt_i H 65 84 (by decide +kernel) (by kernel_rfl) (by kernel_rfl) (by kernel_rfl) (by kernel_rfl) (fun _ _ _ => b1 fun _ => by kernel_rfl)
noncomputable def F_first_differences : List D → Option D := runF p_first_differences.1 1 1
theorem C_first_differences {W : Gl} (H : Has W) : Contract W "first_differences" 4 F_first_differences := Contract.of H.toFine 1 (at_first_differences H) (FnS.of (by decide +kernel)) (p_first_differences.2 W H).h

/- zat -/
noncomputable abbrev L_zat : Lay := [("p", .loc), ("n", .loc), ("found", .loc), ("number", .loc)]
noncomputable abbrev G_zat : List Str := ["reversed"]
noncomputable def p_zat : { g : List S → Option Fl // ∀ W : Gl, Has W → Bx (DenS W 3 L_zat G_zat (fB (stAt 22)) g) } := ⟨_, fun W H => 
    (BS.cons (BO.assign 2 (BE.int _))
    (BS.cons (BO.for (k := 4) (BI.rev H.toFine (BA.cons (BE.var 0) BA.nil)) (BTg.name 3) (BS.one (BO.assign 2 (BE.bin sem_add (BE.bin sem_mul (BE.var 2) (BE.var 1)) (BE.var 3)))))
    (BS.one (BO.ret (BE.var 2)))))⟩
theorem at_zat {W : Gl} (H : Has W) : FnAt W "zat" ["p", "n"] (fB (stAt 22)) (fS (stAt 22)) :=
  fnAt_i H 18 22 (by decide +kernel) (by kernel_rfl) (by kernel_rfl) (by kernel_rfl) (by kernel_rfl) (fun _ _ _ => b2 fun _ _ => by kernel_rfl)
noncomputable def F_zat : List D → Option D := runF p_zat.1 2 2
theorem C_zat {W : Gl} (H : Has W) : Contract W "zat" 4 F_zat := Contract.of H.toFine 2 (at_zat H) (FnS.of (by decide +kernel)) (p_zat.2 W H).h

/- roots_within -/
noncomputable abbrev L_roots_within : Lay := [("f", .loc), ("found", .loc), ("sizes", .loc)]
noncomputable abbrev G_roots_within : List Str := ["zat", "zdegree"]
noncomputable abbrev L1_roots_within : Lay := [("coefficient", .loc), ("f", .no), ("found", .no), ("sizes", .no)]
noncomputable abbrev G1_roots_within : List Str := ["abs"]
noncomputable def p_roots_within : { g : List S → Option Fl // ∀ W : Gl, Has W → Bx (DenS W 5 L_roots_within G_roots_within (fB (stAt 88)) g) } := ⟨_, fun W H => 
    (BS.cons (BO.tupS (k := 3) (names := ["found", "sizes"]) (Names.cons 1 rfl (by decide) (by decide) (Names.cons 2 rfl (by decide) (by decide) Names.nil)) (BIts.consE (BE.int _) (BIts.consE (BE.fresh (BF.comp (Γ' := L1_roots_within) (G' := G1_roots_within) (tl := 1) (CompS.of (by decide +kernel)) (BI.seq (BE.var 0)) (BTg.name 0) BIfs.nil (BE.callB H.toFine "abs" sem_abs (.inl ⟨_, rfl⟩) (by decide +kernel) (by decide +kernel) boot_abs (BA.cons (BE.var 0) BA.nil) (by decide +kernel) (by decide) rfl))) BIts.nil)))
    (BS.cons (BO.while 100000 (BT.cmp sem_le (BE.bin sem_mul (BE.bin sem_mul (BE.int _) (BE.idx (BE.var 2) (BE.un sem_neg (BE.int _)))) (BE.bin sem_pow (BE.var 1) (BE.call H.toOk (C_zdegree H) (BA.cons (BE.var 0) BA.nil)))) (BE.call H.toOk (C_zat H) (BA.cons (BE.var 2) (BA.cons (BE.var 1) BA.nil)))) (BS.one (BO.assign 1 (BE.bin sem_mul (BE.var 1) (BE.int _)))))
    (BS.one (BO.ret (BE.var 1)))))⟩
theorem at_roots_within {W : Gl} (H : Has W) : FnAt W "roots_within" ["f"] (fB (stAt 88)) (fS (stAt 88)) :=
  fnAt_i H 69 88 (by decide +kernel) (by kernel_rfl) (by kernel_rfl) (by kernel_rfl) (by kernel_rfl) (fun _ _ _ => b1 fun _ => by kernel_rfl)
noncomputable def F_roots_within : List D → Option D := runF p_roots_within.1 1 2
theorem C_roots_within {W : Gl} (H : Has W) : Contract W "roots_within" 6 F_roots_within := Contract.of H.toFine 2 (at_roots_within H) (FnS.of (by decide +kernel)) (p_roots_within.2 W H).h

/- zshift -/
noncomputable abbrev L_zshift : Lay := [("p", .loc), ("n", .loc), ("found", .loc), ("low", .loc), ("at", .loc)]
noncomputable abbrev G_zshift : List Str := ["len", "list", "range"]
noncomputable def p_zshift : { g : List S → Option Fl // ∀ W : Gl, Has W → Bx (DenS W 3 L_zshift G_zshift (fB (stAt 23)) g) } := ⟨_, fun W H => 
    (BS.cons (BO.assignF 2 (BF.callB H.toFine "list" sem_list (.inr ⟨_, rfl⟩) (by decide +kernel) (by decide +kernel) boot_list (BA.cons (BE.var 0) BA.nil) (by decide +kernel) (by decide) rfl))
    (BS.cons (BO.for (k := 5) (BI.rng1 H.toFine (BA.cons (BE.bin sem_sub (BE.len H.toFine (BA.cons (BE.var 0) BA.nil)) (BE.int _)) BA.nil)) (BTg.name 3) (BS.one (BO.for (k := 5) (BI.rng3 H.toFine (BA.cons (BE.bin sem_sub (BE.len H.toFine (BA.cons (BE.var 0) BA.nil)) (BE.int _)) (BA.cons (BE.bin sem_sub (BE.var 3) (BE.int _)) (BA.cons (BE.un sem_neg (BE.int _)) BA.nil)))) (BTg.name 4) (BS.one (BO.augItem 2 sem_iadd (BE.bin sem_mul (BE.var 1) (BE.oidx 2 (BE.bin sem_add (BE.var 4) (BE.int _)))) (BE.var 4))))))
    (BS.freeze 2 (BS.one (BO.ret (BE.var 2))))))⟩
theorem at_zshift {W : Gl} (H : Has W) : FnAt W "zshift" ["p", "n"] (fB (stAt 23)) (fS (stAt 23)) :=
  fnAt_i H 19 23 (by decide +kernel) (by kernel_rfl) (by kernel_rfl) (by kernel_rfl) (by kernel_rfl) (fun _ _ _ => b2 fun _ _ => by kernel_rfl)
noncomputable def F_zshift : List D → Option D := runF p_zshift.1 2 3
theorem C_zshift {W : Gl} (H : Has W) : Contract W "zshift" 4 F_zshift := Contract.of H.toFine 3 (at_zshift H) (FnS.of (by decide +kernel)) (p_zshift.2 W H).h

/- dispersions -/
noncomputable abbrev L_dispersions : Lay := [("a", .cel), ("b", .cel), ("most", .loc), ("last", .loc), ("numbers", .loc)]
noncomputable abbrev G_dispersions : List Str := ["CasFail", "MOST_WORK", "first_differences", "min", "range", "roots_within", "simple_part", "whole_zeros", "zdegree"]
noncomputable abbrev L1_dispersions : Lay := [("h", .loc), ("a", .cel), ("b", .cel), ("most", .no), ("last", .no), ("numbers", .no)]
noncomputable abbrev G1_dispersions : List Str := ["resultant", "zshift"]
noncomputable abbrev L2_dispersions : Lay := [("h", .loc), ("a", .cel), ("b", .cel), ("most", .no), ("last", .no), ("numbers", .no)]
noncomputable abbrev G2_dispersions : List Str := ["resultant", "zshift"]
noncomputable def p_dispersions : { g : List S → Option Fl // ∀ W : Gl, Has W → Bx (DenS W 27 L_dispersions G_dispersions (fB (stAt 89)) g) } := ⟨_, fun W H => 
    (BS.cons (BO.if (BT.or (BT.cmp sem_lt (BE.call H.toOk (C_zdegree H) (BA.cons (BE.var 0) BA.nil)) (BE.int _)) (BT.cmp sem_lt (BE.call H.toOk (C_zdegree H) (BA.cons (BE.var 1) BA.nil)) (BE.int _))) (BS.one (BO.ret (BE.fresh (BF.list BA.nil)))) BS.nil)
    (BS.cons (BO.tupP (k := 5) (Names.cons 0 rfl (by decide) (by decide) (Names.cons 1 rfl (by decide) (by decide) Names.nil)) (BIts.consE (BE.call H.toOk (C_simple_part H) (BA.cons (BE.var 0) BA.nil)) (BIts.consE (BE.call H.toOk (C_simple_part H) (BA.cons (BE.var 1) BA.nil)) BIts.nil)))
    (BS.cons (BO.tupS (k := 5) (names := ["most", "last"]) (Names.cons 2 rfl (by decide) (by decide) (Names.cons 3 rfl (by decide) (by decide) Names.nil)) (BIts.consE (BE.bin sem_mul (BE.call H.toOk (C_zdegree H) (BA.cons (BE.var 0) BA.nil)) (BE.call H.toOk (C_zdegree H) (BA.cons (BE.var 1) BA.nil))) (BIts.consE (BE.bin sem_add (BE.call H.toOk (C_roots_within H) (BA.cons (BE.var 0) BA.nil)) (BE.call H.toOk (C_roots_within H) (BA.cons (BE.var 1) BA.nil))) BIts.nil)))
    (BS.cons (BO.if (BT.cmp sem_gt (BE.bin sem_mul (BE.var 2) (BE.callB H.toFine "min" sem_min2 (.inl ⟨_, rfl⟩) (by decide +kernel) (by decide +kernel) boot_min (BA.cons (BE.var 2) (BA.cons (BE.var 3) BA.nil)) (by decide +kernel) (by decide) rfl)) (BE.glob H.toOk (K_MOST_WORK H))) BS.stuck BS.nil)
    (BS.cons (BO.if (BT.cmp sem_le (BE.var 3) (BE.var 2)) (BS.one (BO.ret (BE.fresh (BF.comp (Γ' := L1_dispersions) (G' := G1_dispersions) (tl := 1) (CompS.of (by decide +kernel)) (BI.rng1 H.toFine (BA.cons (BE.bin sem_add (BE.var 3) (BE.int _)) BA.nil)) (BTg.name 0) (BIfs.one (BT.cmp sem_eq (BE.call H.toOk (C_resultant H) (BA.cons (BE.var 1) (BA.cons (BE.call H.toOk (C_zshift H) (BA.cons (BE.var 2) (BA.cons (BE.var 0) BA.nil))) BA.nil))) (BE.int _))) (BE.var 0))))) BS.nil)
    (BS.cons (BO.compE 4 (Γ' := L2_dispersions) (G' := G2_dispersions) (tl := 1) (CompS.of (by decide +kernel)) (BI.rng1 H.toFine (BA.cons (BE.bin sem_add (BE.var 2) (BE.int _)) BA.nil)) (BTg.name 0) BIfs.nil (BE.call H.toOk (C_resultant H) (BA.cons (BE.var 1) (BA.cons (BE.call H.toOk (C_zshift H) (BA.cons (BE.var 2) (BA.cons (BE.var 0) BA.nil))) BA.nil))))
    (BS.one (BO.ret (BE.call H.toOk (C_whole_zeros H) (BA.cons (BE.call H.toOk (C_first_differences H) (BA.cons (BE.var 4) BA.nil)) (BA.cons (BE.var 3) BA.nil)))))))))))⟩
theorem at_dispersions {W : Gl} (H : Has W) : FnAt W "dispersions" ["a", "b"] (fB (stAt 89)) (fS (stAt 89)) :=
  fnAt_i H 70 89 (by decide +kernel) (by kernel_rfl) (by kernel_rfl) (by kernel_rfl) (by kernel_rfl) (fun _ _ _ => b2 fun _ _ => by kernel_rfl)
noncomputable def F_dispersions : List D → Option D := runF p_dispersions.1 2 3
theorem C_dispersions {W : Gl} (H : Has W) : Contract W "dispersions" 28 F_dispersions := Contract.of H.toFine 3 (at_dispersions H) (FnS.of (by decide +kernel)) (p_dispersions.2 W H).h

/- qscale -/
noncomputable abbrev L_qscale : Lay := [("p", .loc), ("r", .cel)]
noncomputable abbrev G_qscale : List Str := []
noncomputable abbrev L1_qscale : Lay := [("number", .loc), ("p", .no), ("r", .cel)]
noncomputable abbrev G1_qscale : List Str := ["rmul"]
noncomputable def p_qscale : { g : List S → Option Fl // ∀ W : Gl, Has W → Bx (DenS W 9 L_qscale G_qscale (fB (stAt 107)) g) } := ⟨_, fun W H => 
    (BS.one (BO.ret (BE.ite (BT.cmp sem_ne (BE.idx (BE.var 1) (BE.int _)) (BE.int _)) (BE.fresh (BF.comp (Γ' := L1_qscale) (G' := G1_qscale) (tl := 1) (CompS.of (by decide +kernel)) (BI.seq (BE.var 0)) (BTg.name 0) BIfs.nil (BE.call H.toOk (C_rmul H) (BA.cons (BE.var 0) (BA.cons (BE.var 2) BA.nil))))) (BE.fresh (BF.list BA.nil)))))⟩
theorem at_qscale {W : Gl} (H : Has W) : FnAt W "qscale" ["p", "r"] (fB (stAt 107)) (fS (stAt 107)) :=
  fnAt_i H 85 107 (by decide +kernel) (by kernel_rfl) (by kernel_rfl) (by kernel_rfl) (by kernel_rfl) (fun _ _ _ => b2 fun _ _ => by kernel_rfl)
noncomputable def F_qscale : List D → Option D := runF p_qscale.1 2 0
theorem C_qscale {W : Gl} (H : Has W) : Contract W "qscale" 10 F_qscale := Contract.of H.toFine 0 (at_qscale H) (FnS.of (by decide +kernel)) (p_qscale.2 W H).h

/- rinv -/
noncomputable abbrev L_rinv : Lay := [("a", .loc)]
noncomputable abbrev G_rinv : List Str := ["rat"]
noncomputable def p_rinv : { g : List S → Option Fl // ∀ W : Gl, Has W → Bx (DenS W 7 L_rinv G_rinv (fB (stAt 43)) g) } := ⟨_, fun W H => 
    (BS.one (BO.ret (BE.call H.toOk (C_rat H) (BA.cons (BE.idx (BE.var 0) (BE.int _)) (BA.cons (BE.idx (BE.var 0) (BE.int _)) BA.nil)))))⟩
theorem at_rinv {W : Gl} (H : Has W) : FnAt W "rinv" ["a"] (fB (stAt 43)) (fS (stAt 43)) :=
  fnAt_i H 34 43 (by decide +kernel) (by kernel_rfl) (by kernel_rfl) (by kernel_rfl) (by kernel_rfl) (fun _ _ _ => b1 fun _ => by kernel_rfl)
noncomputable def F_rinv : List D → Option D := runF p_rinv.1 1 0
theorem C_rinv {W : Gl} (H : Has W) : Contract W "rinv" 8 F_rinv := Contract.of H.toFine 0 (at_rinv H) (FnS.of (by decide +kernel)) (p_rinv.2 W H).h

/- qmonic -/
noncomputable abbrev L_qmonic : Lay := [("p", .loc)]
noncomputable abbrev G_qmonic : List Str := ["len", "qscale", "rinv"]
noncomputable def p_qmonic : { g : List S → Option Fl // ∀ W : Gl, Has W → Bx (DenS W 11 L_qmonic G_qmonic (fB (stAt 111)) g) } := ⟨_, fun W H => 
    (BS.one (BO.ret (BE.ite (BT.cmp sem_gt (BE.len H.toFine (BA.cons (BE.var 0) BA.nil)) (BE.int _)) (BE.call H.toOk (C_qscale H) (BA.cons (BE.var 0) (BA.cons (BE.call H.toOk (C_rinv H) (BA.cons (BE.idx (BE.var 0) (BE.un sem_neg (BE.int _))) BA.nil)) BA.nil))) (BE.fresh (BF.list BA.nil)))))⟩
theorem at_qmonic {W : Gl} (H : Has W) : FnAt W "qmonic" ["p"] (fB (stAt 111)) (fS (stAt 111)) :=
  fnAt_i H 89 111 (by decide +kernel) (by kernel_rfl) (by kernel_rfl) (by kernel_rfl) (by kernel_rfl) (fun _ _ _ => b1 fun _ => by kernel_rfl)
noncomputable def F_qmonic : List D → Option D := runF p_qmonic.1 1 0
theorem C_qmonic {W : Gl} (H : Has W) : Contract W "qmonic" 12 F_qmonic := Contract.of H.toFine 0 (at_qmonic H) (FnS.of (by decide +kernel)) (p_qmonic.2 W H).h

end Gos
end

section
open PySem PySem.W PyProof.Rows
set_option maxHeartbeats 2000000
namespace Gos
open PySem

/- qtrim -/
noncomputable abbrev L_qtrim : Lay := [("row", .loc), ("size", .loc)]
noncomputable abbrev G_qtrim : List Str := ["len", "list"]
noncomputable def p_qtrim : { g : List S → Option Fl // ∀ W : Gl, Has W → Bx (DenS W 3 L_qtrim G_qtrim (fB (stAt 101)) g) } := ⟨_, fun W H => 
    (BS.cons (BO.assign 1 (BE.len H.toFine (BA.cons (BE.var 0) BA.nil)))
    (BS.cons (BO.while 100000 (BT.and (BT.cmp sem_gt (BE.var 1) (BE.int _)) (BT.cmp sem_eq (BE.idx (BE.idx (BE.var 0) (BE.bin sem_sub (BE.var 1) (BE.int _))) (BE.int _)) (BE.int _))) (BS.one (BO.aug 1 sem_isub (BE.int _))))
    (BS.one (BO.ret (BE.fresh (BF.callB H.toFine "list" sem_list (.inr ⟨_, rfl⟩) (by decide +kernel) (by decide +kernel) boot_list (BA.cons (BE.fresh (BF.sliceU (BE.var 0) (BE.var 1))) BA.nil) (by decide +kernel) (by decide) rfl))))))⟩
theorem at_qtrim {W : Gl} (H : Has W) : FnAt W "qtrim" ["row"] (fB (stAt 101)) (fS (stAt 101)) :=
  fnAt_i H 79 101 (by decide +kernel) (by kernel_rfl) (by kernel_rfl) (by kernel_rfl) (by kernel_rfl) (fun _ _ _ => b1 fun _ => by kernel_rfl)
noncomputable def F_qtrim : List D → Option D := runF p_qtrim.1 1 1
theorem C_qtrim {W : Gl} (H : Has W) : Contract W "qtrim" 4 F_qtrim := Contract.of H.toFine 1 (at_qtrim H) (FnS.of (by decide +kernel)) (p_qtrim.2 W H).h

/- qadd -/
noncomputable abbrev L_qadd : Lay := [("a", .cel), ("b", .cel), ("size", .loc)]
noncomputable abbrev G_qadd : List Str := ["len", "max", "qtrim", "range"]
noncomputable abbrev L1_qadd : Lay := [("at", .loc), ("a", .cel), ("b", .cel), ("size", .no)]
noncomputable abbrev G1_qadd : List Str := ["R0", "len", "radd"]
noncomputable def p_qadd : { g : List S → Option Fl // ∀ W : Gl, Has W → Bx (DenS W 9 L_qadd G_qadd (fB (stAt 104)) g) } := ⟨_, fun W H => 
    (BS.cons (BO.assign 2 (BE.callB H.toFine "max" sem_max2 (.inl ⟨_, rfl⟩) (by decide +kernel) (by decide +kernel) boot_max (BA.cons (BE.len H.toFine (BA.cons (BE.var 0) BA.nil)) (BA.cons (BE.len H.toFine (BA.cons (BE.var 1) BA.nil)) BA.nil)) (by decide +kernel) (by decide) rfl))
    (BS.one (BO.ret (BE.call H.toOk (C_qtrim H) (BA.cons (BE.fresh (BF.comp (Γ' := L1_qadd) (G' := G1_qadd) (tl := 1) (CompS.of (by decide +kernel)) (BI.rng1 H.toFine (BA.cons (BE.var 2) BA.nil)) (BTg.name 0) BIfs.nil (BE.call H.toOk (C_radd H) (BA.cons (BE.ite (BT.cmp sem_lt (BE.var 0) (BE.len H.toFine (BA.cons (BE.var 1) BA.nil))) (BE.idx (BE.var 1) (BE.var 0)) (BE.glob H.toOk (K_R0 H))) (BA.cons (BE.ite (BT.cmp sem_lt (BE.var 0) (BE.len H.toFine (BA.cons (BE.var 2) BA.nil))) (BE.idx (BE.var 2) (BE.var 0)) (BE.glob H.toOk (K_R0 H))) BA.nil))))) BA.nil)))))⟩
theorem at_qadd {W : Gl} (H : Has W) : FnAt W "qadd" ["a", "b"] (fB (stAt 104)) (fS (stAt 104)) :=
  fnAt_i H 82 104 (by decide +kernel) (by kernel_rfl) (by kernel_rfl) (by kernel_rfl) (by kernel_rfl) (fun _ _ _ => b2 fun _ _ => by kernel_rfl)
noncomputable def F_qadd : List D → Option D := runF p_qadd.1 2 1
theorem C_qadd {W : Gl} (H : Has W) : Contract W "qadd" 10 F_qadd := Contract.of H.toFine 1 (at_qadd H) (FnS.of (by decide +kernel)) (p_qadd.2 W H).h

/- rneg -/
noncomputable abbrev L_rneg : Lay := [("a", .loc)]
noncomputable abbrev G_rneg : List Str := []
noncomputable def p_rneg : { g : List S → Option Fl // ∀ W : Gl, Has W → Bx (DenS W 3 L_rneg G_rneg (fB (stAt 42)) g) } := ⟨_, fun W H => 
    (BS.one (BO.ret (BE.tup (BA.cons (BE.bin sem_sub (BE.int _) (BE.idx (BE.var 0) (BE.int _))) (BA.cons (BE.idx (BE.var 0) (BE.int _)) BA.nil)))))⟩
theorem at_rneg {W : Gl} (H : Has W) : FnAt W "rneg" ["a"] (fB (stAt 42)) (fS (stAt 42)) :=
  fnAt_i H 33 42 (by decide +kernel) (by kernel_rfl) (by kernel_rfl) (by kernel_rfl) (by kernel_rfl) (fun _ _ _ => b1 fun _ => by kernel_rfl)
noncomputable def F_rneg : List D → Option D := runF p_rneg.1 1 0
theorem C_rneg {W : Gl} (H : Has W) : Contract W "rneg" 4 F_rneg := Contract.of H.toFine 0 (at_rneg H) (FnS.of (by decide +kernel)) (p_rneg.2 W H).h

/- qneg -/
noncomputable abbrev L_qneg : Lay := [("p", .loc)]
noncomputable abbrev G_qneg : List Str := []
noncomputable abbrev L1_qneg : Lay := [("number", .loc), ("p", .no)]
noncomputable abbrev G1_qneg : List Str := ["rneg"]
noncomputable def p_qneg : { g : List S → Option Fl // ∀ W : Gl, Has W → Bx (DenS W 5 L_qneg G_qneg (fB (stAt 105)) g) } := ⟨_, fun W H => 
    (BS.one (BO.ret (BE.fresh (BF.comp (Γ' := L1_qneg) (G' := G1_qneg) (tl := 1) (CompS.of (by decide +kernel)) (BI.seq (BE.var 0)) (BTg.name 0) BIfs.nil (BE.call H.toOk (C_rneg H) (BA.cons (BE.var 0) BA.nil))))))⟩
theorem at_qneg {W : Gl} (H : Has W) : FnAt W "qneg" ["p"] (fB (stAt 105)) (fS (stAt 105)) :=
  fnAt_i H 83 105 (by decide +kernel) (by kernel_rfl) (by kernel_rfl) (by kernel_rfl) (by kernel_rfl) (fun _ _ _ => b1 fun _ => by kernel_rfl)
noncomputable def F_qneg : List D → Option D := runF p_qneg.1 1 0
theorem C_qneg {W : Gl} (H : Has W) : Contract W "qneg" 6 F_qneg := Contract.of H.toFine 0 (at_qneg H) (FnS.of (by decide +kernel)) (p_qneg.2 W H).h

/- qsub -/
noncomputable abbrev L_qsub : Lay := [("a", .loc), ("b", .loc)]
noncomputable abbrev G_qsub : List Str := ["qadd", "qneg"]
noncomputable def p_qsub : { g : List S → Option Fl // ∀ W : Gl, Has W → Bx (DenS W 11 L_qsub G_qsub (fB (stAt 106)) g) } := ⟨_, fun W H => 
    (BS.one (BO.ret (BE.call H.toOk (C_qadd H) (BA.cons (BE.var 0) (BA.cons (BE.call H.toOk (C_qneg H) (BA.cons (BE.var 1) BA.nil)) BA.nil)))))⟩
theorem at_qsub {W : Gl} (H : Has W) : FnAt W "qsub" ["a", "b"] (fB (stAt 106)) (fS (stAt 106)) :=
  fnAt_i H 84 106 (by decide +kernel) (by kernel_rfl) (by kernel_rfl) (by kernel_rfl) (by kernel_rfl) (fun _ _ _ => b2 fun _ _ => by kernel_rfl)
noncomputable def F_qsub : List D → Option D := runF p_qsub.1 2 0
theorem C_qsub {W : Gl} (H : Has W) : Contract W "qsub" 12 F_qsub := Contract.of H.toFine 0 (at_qsub H) (FnS.of (by decide +kernel)) (p_qsub.2 W H).h

/- rdiv -/
noncomputable abbrev L_rdiv : Lay := [("a", .loc), ("b", .loc)]
noncomputable abbrev G_rdiv : List Str := ["rat"]
noncomputable def p_rdiv : { g : List S → Option Fl // ∀ W : Gl, Has W → Bx (DenS W 7 L_rdiv G_rdiv (fB (stAt 41)) g) } := ⟨_, fun W H => 
    (BS.one (BO.ret (BE.call H.toOk (C_rat H) (BA.cons (BE.bin sem_mul (BE.idx (BE.var 0) (BE.int _)) (BE.idx (BE.var 1) (BE.int _))) (BA.cons (BE.bin sem_mul (BE.idx (BE.var 0) (BE.int _)) (BE.idx (BE.var 1) (BE.int _))) BA.nil)))))⟩
theorem at_rdiv {W : Gl} (H : Has W) : FnAt W "rdiv" ["a", "b"] (fB (stAt 41)) (fS (stAt 41)) :=
  fnAt_i H 32 41 (by decide +kernel) (by kernel_rfl) (by kernel_rfl) (by kernel_rfl) (by kernel_rfl) (fun _ _ _ => b2 fun _ _ => by kernel_rfl)
noncomputable def F_rdiv : List D → Option D := runF p_rdiv.1 2 0
theorem C_rdiv {W : Gl} (H : Has W) : Contract W "rdiv" 8 F_rdiv := Contract.of H.toFine 0 (at_rdiv H) (FnS.of (by decide +kernel)) (p_rdiv.2 W H).h

/- qraise -/
noncomputable abbrev L_qraise : Lay := [("p", .loc), ("many", .loc)]
noncomputable abbrev G_qraise : List Str := ["R0", "len", "list"]
noncomputable def p_qraise : { g : List S → Option Fl // ∀ W : Gl, Has W → Bx (DenS W 3 L_qraise G_qraise (fB (stAt 108)) g) } := ⟨_, fun W H => 
    (BS.one (BO.ret (BE.ite (BT.cmp sem_gt (BE.len H.toFine (BA.cons (BE.var 0) BA.nil)) (BE.int _)) (BE.fresh (BF.bin sem_addF (BE.fresh (BF.bin sem_mulF (BE.fresh (BF.list (BA.cons (BE.glob H.toOk (K_R0 H)) BA.nil))) (BE.var 1))) (BE.fresh (BF.callB H.toFine "list" sem_list (.inr ⟨_, rfl⟩) (by decide +kernel) (by decide +kernel) boot_list (BA.cons (BE.var 0) BA.nil) (by decide +kernel) (by decide) rfl)))) (BE.fresh (BF.list BA.nil)))))⟩
theorem at_qraise {W : Gl} (H : Has W) : FnAt W "qraise" ["p", "many"] (fB (stAt 108)) (fS (stAt 108)) :=
  fnAt_i H 86 108 (by decide +kernel) (by kernel_rfl) (by kernel_rfl) (by kernel_rfl) (by kernel_rfl) (fun _ _ _ => b2 fun _ _ => by kernel_rfl)
noncomputable def F_qraise : List D → Option D := runF p_qraise.1 2 0
theorem C_qraise {W : Gl} (H : Has W) : Contract W "qraise" 4 F_qraise := Contract.of H.toFine 0 (at_qraise H) (FnS.of (by decide +kernel)) (p_qraise.2 W H).h

/- qdivmod -/
noncomputable abbrev L_qdivmod : Lay := [("a", .loc), ("b", .loc), ("rest", .loc), ("found", .loc), ("number", .loc), ("power", .loc), ("lower", .loc)]
noncomputable abbrev G_qdivmod : List Str := ["CasFail", "R0", "len", "list", "max", "qraise", "qscale", "qsub", "qtrim", "rdiv"]
noncomputable def p_qdivmod : { g : List S → Option Fl // ∀ W : Gl, Has W → Bx (DenS W 13 L_qdivmod G_qdivmod (fB (stAt 110)) g) } := ⟨_, fun W H => 
    (BS.cons (BO.if (BT.cmp sem_eq (BE.len H.toFine (BA.cons (BE.var 1) BA.nil)) (BE.int _)) BS.stuck BS.nil)
    (BS.cons (BO.tupS (k := 7) (names := ["rest", "found"]) (Names.cons 2 rfl (by decide) (by decide) (Names.cons 3 rfl (by decide) (by decide) Names.nil)) (BIts.consE (BE.fresh (BF.callB H.toFine "list" sem_list (.inr ⟨_, rfl⟩) (by decide +kernel) (by decide +kernel) boot_list (BA.cons (BE.var 0) BA.nil) (by decide +kernel) (by decide) rfl)) (BIts.consF (BF.bin sem_mulF (BE.fresh (BF.list (BA.cons (BE.glob H.toOk (K_R0 H)) BA.nil))) (BE.callB H.toFine "max" sem_max2 (.inl ⟨_, rfl⟩) (by decide +kernel) (by decide +kernel) boot_max (BA.cons (BE.int _) (BA.cons (BE.bin sem_add (BE.bin sem_sub (BE.len H.toFine (BA.cons (BE.var 0) BA.nil)) (BE.len H.toFine (BA.cons (BE.var 1) BA.nil))) (BE.int _)) BA.nil)) (by decide +kernel) (by decide) rfl)) BIts.nil)))
    (BS.cons (BO.while 100000 (BT.cmp sem_ge (BE.len H.toFine (BA.cons (BE.var 2) BA.nil)) (BE.len H.toFine (BA.cons (BE.var 1) BA.nil))) (BS.cons (BO.tupS (k := 7) (names := ["number", "power"]) (Names.cons 4 rfl (by decide) (by decide) (Names.cons 5 rfl (by decide) (by decide) Names.nil)) (BIts.consE (BE.call H.toOk (C_rdiv H) (BA.cons (BE.idx (BE.var 2) (BE.un sem_neg (BE.int _))) (BA.cons (BE.idx (BE.var 1) (BE.un sem_neg (BE.int _))) BA.nil))) (BIts.consE (BE.bin sem_sub (BE.len H.toFine (BA.cons (BE.var 2) BA.nil)) (BE.len H.toFine (BA.cons (BE.var 1) BA.nil))) BIts.nil)))
    (BS.cons (BO.setItem 3 (BE.var 4) (BE.var 5))
    (BS.cons (BO.assign 6 (BE.call H.toOk (C_qsub H) (BA.cons (BE.fresh (BF.sliceU (BE.var 2) (BE.un sem_neg (BE.int _)))) (BA.cons (BE.call H.toOk (C_qraise H) (BA.cons (BE.call H.toOk (C_qscale H) (BA.cons (BE.fresh (BF.sliceU (BE.var 1) (BE.un sem_neg (BE.int _)))) (BA.cons (BE.var 4) BA.nil))) (BA.cons (BE.var 5) BA.nil))) BA.nil))))
    (BS.one (BO.assign 2 (BE.var 6)))))))
    (BS.freeze 3 (BS.one (BO.ret (BE.tup (BA.cons (BE.call H.toOk (C_qtrim H) (BA.cons (BE.var 3) BA.nil)) (BA.cons (BE.var 2) BA.nil)))))))))⟩
theorem at_qdivmod {W : Gl} (H : Has W) : FnAt W "qdivmod" ["a", "b"] (fB (stAt 110)) (fS (stAt 110)) :=
  fnAt_i H 88 110 (by decide +kernel) (by kernel_rfl) (by kernel_rfl) (by kernel_rfl) (by kernel_rfl) (fun _ _ _ => b2 fun _ _ => by kernel_rfl)
noncomputable def F_qdivmod : List D → Option D := runF p_qdivmod.1 2 5
theorem C_qdivmod {W : Gl} (H : Has W) : Contract W "qdivmod" 14 F_qdivmod := Contract.of H.toFine 5 (at_qdivmod H) (FnS.of (by decide +kernel)) (p_qdivmod.2 W H).h

/- qgcd -/
noncomputable abbrev L_qgcd : Lay := [("a", .loc), ("b", .loc)]
noncomputable abbrev G_qgcd : List Str := ["len", "qdivmod", "qmonic"]
noncomputable def p_qgcd : { g : List S → Option Fl // ∀ W : Gl, Has W → Bx (DenS W 15 L_qgcd G_qgcd (fB (stAt 112)) g) } := ⟨_, fun W H => 
    (BS.cons (BO.while 100000 (BT.cmp sem_gt (BE.len H.toFine (BA.cons (BE.var 1) BA.nil)) (BE.int _)) (BS.one (BO.tupS (k := 2) (names := ["a", "b"]) (Names.cons 0 rfl (by decide) (by decide) (Names.cons 1 rfl (by decide) (by decide) Names.nil)) (BIts.consE (BE.var 1) (BIts.consE (BE.call H.toOk (C_qmonic H) (BA.cons (BE.idx (BE.call H.toOk (C_qdivmod H) (BA.cons (BE.var 0) (BA.cons (BE.var 1) BA.nil))) (BE.int _)) BA.nil)) BIts.nil)))))
    (BS.one (BO.ret (BE.call H.toOk (C_qmonic H) (BA.cons (BE.var 0) BA.nil)))))⟩
theorem at_qgcd {W : Gl} (H : Has W) : FnAt W "qgcd" ["a", "b"] (fB (stAt 112)) (fS (stAt 112)) :=
  fnAt_i H 90 112 (by decide +kernel) (by kernel_rfl) (by kernel_rfl) (by kernel_rfl) (by kernel_rfl) (fun _ _ _ => b2 fun _ _ => by kernel_rfl)
noncomputable def F_qgcd : List D → Option D := runF p_qgcd.1 2 0
theorem C_qgcd {W : Gl} (H : Has W) : Contract W "qgcd" 16 F_qgcd := Contract.of H.toFine 0 (at_qgcd H) (FnS.of (by decide +kernel)) (p_qgcd.2 W H).h

/- to_z -/
noncomputable abbrev L_to_z : Lay := [("q", .loc), ("bottom", .cel), ("number", .loc), ("whole", .loc), ("content", .loc)]
noncomputable abbrev G_to_z : List Str := ["R0", "gcd", "len", "rat", "zcontent", "zprimitive"]
noncomputable abbrev L1_to_z : Lay := [("number", .loc), ("q", .no), ("bottom", .cel), ("number", .no), ("whole", .no), ("content", .no)]
noncomputable abbrev G1_to_z : List Str := []
noncomputable def p_to_z : { g : List S → Option Fl // ∀ W : Gl, Has W → Bx (DenS W 11 L_to_z G_to_z (fB (stAt 115)) g) } := ⟨_, fun W H => 
    (BS.cons (BO.if (BT.cmp sem_eq (BE.len H.toFine (BA.cons (BE.var 0) BA.nil)) (BE.int _)) (BS.one (BO.ret (BE.tup (BA.cons (BE.fresh (BF.list BA.nil)) (BA.cons (BE.glob H.toOk (K_R0 H)) BA.nil))))) BS.nil)
    (BS.cons (BO.assign 1 (BE.int _))
    (BS.cons (BO.for (k := 5) (BI.seq (BE.var 0)) (BTg.name 2) (BS.one (BO.assign 1 (BE.bin sem_mul (BE.bin sem_fdiv (BE.var 1) (BE.call H.toOk (C_gcd H) (BA.cons (BE.var 1) (BA.cons (BE.idx (BE.var 2) (BE.int _)) BA.nil)))) (BE.idx (BE.var 2) (BE.int _))))))
    (BS.cons (BO.compE 3 (Γ' := L1_to_z) (G' := G1_to_z) (tl := 1) (CompS.of (by decide +kernel)) (BI.seq (BE.var 0)) (BTg.name 0) BIfs.nil (BE.bin sem_mul (BE.idx (BE.var 0) (BE.int _)) (BE.bin sem_fdiv (BE.var 2) (BE.idx (BE.var 0) (BE.int _)))))
    (BS.cons (BO.assign 4 (BE.call H.toOk (C_zcontent H) (BA.cons (BE.var 3) BA.nil)))
    (BS.one (BO.ret (BE.tup (BA.cons (BE.call H.toOk (C_zprimitive H) (BA.cons (BE.var 3) BA.nil)) (BA.cons (BE.call H.toOk (C_rat H) (BA.cons (BE.ite (BT.cmp sem_gt (BE.idx (BE.var 3) (BE.un sem_neg (BE.int _))) (BE.int _)) (BE.var 4) (BE.un sem_neg (BE.var 4))) (BA.cons (BE.var 1) BA.nil))) BA.nil))))))))))⟩
theorem at_to_z {W : Gl} (H : Has W) : FnAt W "to_z" ["q"] (fB (stAt 115)) (fS (stAt 115)) :=
  fnAt_i H 93 115 (by decide +kernel) (by kernel_rfl) (by kernel_rfl) (by kernel_rfl) (by kernel_rfl) (fun _ _ _ => b1 fun _ => by kernel_rfl)
noncomputable def F_to_z : List D → Option D := runF p_to_z.1 1 4
theorem C_to_z {W : Gl} (H : Has W) : Contract W "to_z" 12 F_to_z := Contract.of H.toFine 4 (at_to_z H) (FnS.of (by decide +kernel)) (p_to_z.2 W H).h

/- qmul -/
noncomputable abbrev L_qmul : Lay := [("a", .loc), ("b", .loc), ("found", .loc), ("one", .loc), ("left", .loc), ("other", .loc), ("right", .loc)]
noncomputable abbrev G_qmul : List Str := ["R0", "enumerate", "len", "radd", "rmul"]
noncomputable def p_qmul : { g : List S → Option Fl // ∀ W : Gl, Has W → Bx (DenS W 9 L_qmul G_qmul (fB (stAt 109)) g) } := ⟨_, fun W H => 
    (BS.cons (BO.if (BT.or (BT.cmp sem_eq (BE.len H.toFine (BA.cons (BE.var 0) BA.nil)) (BE.int _)) (BT.cmp sem_eq (BE.len H.toFine (BA.cons (BE.var 1) BA.nil)) (BE.int _))) (BS.one (BO.ret (BE.fresh (BF.list BA.nil)))) BS.nil)
    (BS.cons (BO.assignF 2 (BF.bin sem_mulF (BE.fresh (BF.list (BA.cons (BE.glob H.toOk (K_R0 H)) BA.nil))) (BE.bin sem_sub (BE.bin sem_add (BE.len H.toFine (BA.cons (BE.var 0) BA.nil)) (BE.len H.toFine (BA.cons (BE.var 1) BA.nil))) (BE.int _))))
    (BS.cons (BO.for (k := 7) (BI.enum H.toFine (BA.cons (BE.var 0) BA.nil)) (BTg.tup (Names.cons 3 rfl (by decide) (by decide) (Names.cons 4 rfl (by decide) (by decide) Names.nil))) (BS.one (BO.for (k := 7) (BI.enum H.toFine (BA.cons (BE.var 1) BA.nil)) (BTg.tup (Names.cons 5 rfl (by decide) (by decide) (Names.cons 6 rfl (by decide) (by decide) Names.nil))) (BS.one (BO.setItem 2 (BE.call H.toOk (C_radd H) (BA.cons (BE.oidx 2 (BE.bin sem_add (BE.var 3) (BE.var 5))) (BA.cons (BE.call H.toOk (C_rmul H) (BA.cons (BE.var 4) (BA.cons (BE.var 6) BA.nil))) BA.nil))) (BE.bin sem_add (BE.var 3) (BE.var 5)))))))
    (BS.freeze 2 (BS.one (BO.ret (BE.var 2)))))))⟩
theorem at_qmul {W : Gl} (H : Has W) : FnAt W "qmul" ["a", "b"] (fB (stAt 109)) (fS (stAt 109)) :=
  fnAt_i H 87 109 (by decide +kernel) (by kernel_rfl) (by kernel_rfl) (by kernel_rfl) (by kernel_rfl) (fun _ _ _ => b2 fun _ _ => by kernel_rfl)
noncomputable def F_qmul : List D → Option D := runF p_qmul.1 2 5
theorem C_qmul {W : Gl} (H : Has W) : Contract W "qmul" 10 F_qmul := Contract.of H.toFine 5 (at_qmul H) (FnS.of (by decide +kernel)) (p_qmul.2 W H).h

/- qcompose -/
noncomputable abbrev L_qcompose : Lay := [("a", .loc), ("b", .loc), ("found", .loc), ("number", .loc)]
noncomputable abbrev G_qcompose : List Str := ["qadd", "qmul", "qtrim", "reversed"]
noncomputable def p_qcompose : { g : List S → Option Fl // ∀ W : Gl, Has W → Bx (DenS W 11 L_qcompose G_qcompose (fB (stAt 114)) g) } := ⟨_, fun W H => 
    (BS.cons (BO.assign 2 (BE.fresh (BF.list BA.nil)))
    (BS.cons (BO.for (k := 4) (BI.rev H.toFine (BA.cons (BE.var 0) BA.nil)) (BTg.name 3) (BS.one (BO.assign 2 (BE.call H.toOk (C_qadd H) (BA.cons (BE.call H.toOk (C_qmul H) (BA.cons (BE.var 2) (BA.cons (BE.var 1) BA.nil))) (BA.cons (BE.call H.toOk (C_qtrim H) (BA.cons (BE.fresh (BF.list (BA.cons (BE.var 3) BA.nil))) BA.nil)) BA.nil))))))
    (BS.one (BO.ret (BE.var 2)))))⟩
theorem at_qcompose {W : Gl} (H : Has W) : FnAt W "qcompose" ["a", "b"] (fB (stAt 114)) (fS (stAt 114)) :=
  fnAt_i H 92 114 (by decide +kernel) (by kernel_rfl) (by kernel_rfl) (by kernel_rfl) (by kernel_rfl) (fun _ _ _ => b2 fun _ _ => by kernel_rfl)
noncomputable def F_qcompose : List D → Option D := runF p_qcompose.1 2 2
theorem C_qcompose {W : Gl} (H : Has W) : Contract W "qcompose" 12 F_qcompose := Contract.of H.toFine 2 (at_qcompose H) (FnS.of (by decide +kernel)) (p_qcompose.2 W H).h

/- moved -/
noncomputable abbrev L_moved : Lay := [("p", .loc), ("h", .loc)]
noncomputable abbrev G_moved : List Str := ["R1", "qcompose"]
noncomputable def p_moved : { g : List S → Option Fl // ∀ W : Gl, Has W → Bx (DenS W 13 L_moved G_moved (fB (stAt 122)) g) } := ⟨_, fun W H => 
    (BS.one (BO.ret (BE.ite (BT.cmp sem_ne (BE.var 1) (BE.int _)) (BE.call H.toOk (C_qcompose H) (BA.cons (BE.var 0) (BA.cons (BE.fresh (BF.list (BA.cons (BE.tup (BA.cons (BE.var 1) (BA.cons (BE.int _) BA.nil))) (BA.cons (BE.glob H.toOk (K_R1 H)) BA.nil)))) BA.nil))) (BE.var 0))))⟩
theorem at_moved {W : Gl} (H : Has W) : FnAt W "moved" ["p", "h"] (fB (stAt 122)) (fS (stAt 122)) :=
  fnAt_i H 96 122 (by decide +kernel) (by kernel_rfl) (by kernel_rfl) (by kernel_rfl) (by kernel_rfl) (fun _ _ _ => b2 fun _ _ => by kernel_rfl)
noncomputable def F_moved : List D → Option D := runF p_moved.1 2 0
theorem C_moved {W : Gl} (H : Has W) : Contract W "moved" 14 F_moved := Contract.of H.toFine 0 (at_moved H) (FnS.of (by decide +kernel)) (p_moved.2 W H).h

/- qdegree -/
noncomputable abbrev L_qdegree : Lay := [("p", .loc)]
noncomputable abbrev G_qdegree : List Str := ["len"]
noncomputable def p_qdegree : { g : List S → Option Fl // ∀ W : Gl, Has W → Bx (DenS W 3 L_qdegree G_qdegree (fB (stAt 102)) g) } := ⟨_, fun W H => 
    (BS.one (BO.ret (BE.bin sem_sub (BE.len H.toFine (BA.cons (BE.var 0) BA.nil)) (BE.int _))))⟩
theorem at_qdegree {W : Gl} (H : Has W) : FnAt W "qdegree" ["p"] (fB (stAt 102)) (fS (stAt 102)) :=
  fnAt_i H 80 102 (by decide +kernel) (by kernel_rfl) (by kernel_rfl) (by kernel_rfl) (by kernel_rfl) (fun _ _ _ => b1 fun _ => by kernel_rfl)
noncomputable def F_qdegree : List D → Option D := runF p_qdegree.1 1 0
theorem C_qdegree {W : Gl} (H : Has W) : Contract W "qdegree" 4 F_qdegree := Contract.of H.toFine 0 (at_qdegree H) (FnS.of (by decide +kernel)) (p_qdegree.2 W H).h

/- qlead -/
noncomputable abbrev L_qlead : Lay := [("p", .loc)]
noncomputable abbrev G_qlead : List Str := ["R0", "len"]
noncomputable def p_qlead : { g : List S → Option Fl // ∀ W : Gl, Has W → Bx (DenS W 3 L_qlead G_qlead (fB (stAt 103)) g) } := ⟨_, fun W H => 
    (BS.one (BO.ret (BE.ite (BT.cmp sem_gt (BE.len H.toFine (BA.cons (BE.var 0) BA.nil)) (BE.int _)) (BE.idx (BE.var 0) (BE.un sem_neg (BE.int _))) (BE.glob H.toOk (K_R0 H)))))⟩
theorem at_qlead {W : Gl} (H : Has W) : FnAt W "qlead" ["p"] (fB (stAt 103)) (fS (stAt 103)) :=
  fnAt_i H 81 103 (by decide +kernel) (by kernel_rfl) (by kernel_rfl) (by kernel_rfl) (by kernel_rfl) (fun _ _ _ => b1 fun _ => by kernel_rfl)
noncomputable def F_qlead : List D → Option D := runF p_qlead.1 1 0
theorem C_qlead {W : Gl} (H : Has W) : Contract W "qlead" 4 F_qlead := Contract.of H.toFine 0 (at_qlead H) (FnS.of (by decide +kernel)) (p_qlead.2 W H).h

/- coefficient_at -/
noncomputable abbrev L_coefficient_at : Lay := [("p", .loc), ("power", .loc)]
noncomputable abbrev G_coefficient_at : List Str := ["R0", "len"]
noncomputable def p_coefficient_at : { g : List S → Option Fl // ∀ W : Gl, Has W → Bx (DenS W 3 L_coefficient_at G_coefficient_at (fB (stAt 124)) g) } := ⟨_, fun W H => 
    (BS.one (BO.ret (BE.ite (BT.chain2 sem_le sem_lt (BE.int _) (BE.var 1) (BE.len H.toFine (BA.cons (BE.var 0) BA.nil))) (BE.idx (BE.var 0) (BE.var 1)) (BE.glob H.toOk (K_R0 H)))))⟩
theorem at_coefficient_at {W : Gl} (H : Has W) : FnAt W "coefficient_at" ["p", "power"] (fB (stAt 124)) (fS (stAt 124)) :=
  fnAt_i H 98 124 (by decide +kernel) (by kernel_rfl) (by kernel_rfl) (by kernel_rfl) (by kernel_rfl) (fun _ _ _ => b2 fun _ _ => by kernel_rfl)
noncomputable def F_coefficient_at : List D → Option D := runF p_coefficient_at.1 2 0
theorem C_coefficient_at {W : Gl} (H : Has W) : Contract W "coefficient_at" 4 F_coefficient_at := Contract.of H.toFine 0 (at_coefficient_at H) (FnS.of (by decide +kernel)) (p_coefficient_at.2 W H).h

/- ris_whole -/
noncomputable abbrev L_ris_whole : Lay := [("a", .loc)]
noncomputable abbrev G_ris_whole : List Str := []
noncomputable def p_ris_whole : { g : List S → Option Fl // ∀ W : Gl, Has W → Bx (DenS W 3 L_ris_whole G_ris_whole (fB (stAt 46)) g) } := ⟨_, fun W H => 
    (BS.one (BO.ret (BE.cmp sem_eq (BE.idx (BE.var 0) (BE.int _)) (BE.int _))))⟩
theorem at_ris_whole {W : Gl} (H : Has W) : FnAt W "ris_whole" ["a"] (fB (stAt 46)) (fS (stAt 46)) :=
  fnAt_i H 37 46 (by decide +kernel) (by kernel_rfl) (by kernel_rfl) (by kernel_rfl) (by kernel_rfl) (fun _ _ _ => b1 fun _ => by kernel_rfl)
noncomputable def F_ris_whole : List D → Option D := runF p_ris_whole.1 1 0
theorem C_ris_whole {W : Gl} (H : Has W) : Contract W "ris_whole" 4 F_ris_whole := Contract.of H.toFine 0 (at_ris_whole H) (FnS.of (by decide +kernel)) (p_ris_whole.2 W H).h

/- most_degree -/
noncomputable abbrev L_most_degree : Lay := [("a", .loc), ("b", .loc), ("c", .loc), ("high", .loc), ("least", .loc), ("gap", .loc)]
noncomputable abbrev G_most_degree : List Str := ["coefficient_at", "max", "qdegree", "qlead", "rdiv", "ris_whole", "rsub"]
noncomputable def p_most_degree : { g : List S → Option Fl // ∀ W : Gl, Has W → Bx (DenS W 9 L_most_degree G_most_degree (fB (stAt 125)) g) } := ⟨_, fun W H => 
    (BS.cons (BO.assign 3 (BE.callB H.toFine "max" sem_max2 (.inl ⟨_, rfl⟩) (by decide +kernel) (by decide +kernel) boot_max (BA.cons (BE.call H.toOk (C_qdegree H) (BA.cons (BE.var 0) BA.nil)) (BA.cons (BE.call H.toOk (C_qdegree H) (BA.cons (BE.var 1) BA.nil)) BA.nil)) (by decide +kernel) (by decide) rfl))
    (BS.cons (BO.if (BT.or (BT.cmp sem_ne (BE.call H.toOk (C_qdegree H) (BA.cons (BE.var 0) BA.nil)) (BE.call H.toOk (C_qdegree H) (BA.cons (BE.var 1) BA.nil))) (BT.cmp sem_ne (BE.call H.toOk (C_qlead H) (BA.cons (BE.var 0) BA.nil)) (BE.call H.toOk (C_qlead H) (BA.cons (BE.var 1) BA.nil)))) (BS.one (BO.ret (BE.bin sem_sub (BE.call H.toOk (C_qdegree H) (BA.cons (BE.var 2) BA.nil)) (BE.var 3)))) BS.nil)
    (BS.cons (BO.assign 4 (BE.bin sem_add (BE.bin sem_sub (BE.call H.toOk (C_qdegree H) (BA.cons (BE.var 2) BA.nil)) (BE.var 3)) (BE.int _)))
    (BS.cons (BO.assign 5 (BE.call H.toOk (C_rdiv H) (BA.cons (BE.call H.toOk (C_rsub H) (BA.cons (BE.call H.toOk (C_coefficient_at H) (BA.cons (BE.var 1) (BA.cons (BE.bin sem_sub (BE.var 3) (BE.int _)) BA.nil))) (BA.cons (BE.call H.toOk (C_coefficient_at H) (BA.cons (BE.var 0) (BA.cons (BE.bin sem_sub (BE.var 3) (BE.int _)) BA.nil))) BA.nil))) (BA.cons (BE.call H.toOk (C_qlead H) (BA.cons (BE.var 0) BA.nil)) BA.nil))))
    (BS.one (BO.ret (BE.ite (BT.and (BT.val (BE.call H.toOk (C_ris_whole H) (BA.cons (BE.var 5) BA.nil))) (BT.cmp sem_ge (BE.idx (BE.var 5) (BE.int _)) (BE.int _))) (BE.callB H.toFine "max" sem_max2 (.inl ⟨_, rfl⟩) (by decide +kernel) (by decide +kernel) boot_max (BA.cons (BE.var 4) (BA.cons (BE.idx (BE.var 5) (BE.int _)) BA.nil)) (by decide +kernel) (by decide) rfl) (BE.var 4))))))))⟩
theorem at_most_degree {W : Gl} (H : Has W) : FnAt W "most_degree" ["a", "b", "c"] (fB (stAt 125)) (fS (stAt 125)) :=
  fnAt_i H 99 125 (by decide +kernel) (by kernel_rfl) (by kernel_rfl) (by kernel_rfl) (by kernel_rfl) (fun _ _ _ => b3 fun _ _ _ => by kernel_rfl)
noncomputable def F_most_degree : List D → Option D := runF p_most_degree.1 3 3
theorem C_most_degree {W : Gl} (H : Has W) : Contract W "most_degree" 10 F_most_degree := Contract.of H.toFine 3 (at_most_degree H) (FnS.of (by decide +kernel)) (p_most_degree.2 W H).h

/- difference_of -/
noncomputable abbrev L_difference_of : Lay := [("a", .loc), ("b", .loc), ("x", .loc)]
noncomputable abbrev G_difference_of : List Str := ["moved", "qadd", "qmul", "qneg"]
noncomputable def p_difference_of : { g : List S → Option Fl // ∀ W : Gl, Has W → Bx (DenS W 15 L_difference_of G_difference_of (fB (stAt 126)) g) } := ⟨_, fun W H => 
    (BS.one (BO.ret (BE.call H.toOk (C_qadd H) (BA.cons (BE.call H.toOk (C_qmul H) (BA.cons (BE.var 0) (BA.cons (BE.call H.toOk (C_moved H) (BA.cons (BE.var 2) (BA.cons (BE.int _) BA.nil))) BA.nil))) (BA.cons (BE.call H.toOk (C_qneg H) (BA.cons (BE.call H.toOk (C_qmul H) (BA.cons (BE.var 1) (BA.cons (BE.var 2) BA.nil))) BA.nil)) BA.nil)))))⟩
theorem at_difference_of {W : Gl} (H : Has W) : FnAt W "difference_of" ["a", "b", "x"] (fB (stAt 126)) (fS (stAt 126)) :=
  fnAt_i H 100 126 (by decide +kernel) (by kernel_rfl) (by kernel_rfl) (by kernel_rfl) (by kernel_rfl) (fun _ _ _ => b3 fun _ _ _ => by kernel_rfl)
noncomputable def F_difference_of : List D → Option D := runF p_difference_of.1 3 0
theorem C_difference_of {W : Gl} (H : Has W) : Contract W "difference_of" 16 F_difference_of := Contract.of H.toFine 0 (at_difference_of H) (FnS.of (by decide +kernel)) (p_difference_of.2 W H).h

/- need_shape -/
noncomputable abbrev L_need_shape : Lay := [("is_right", .loc), ("text", .loc)]
noncomputable abbrev G_need_shape : List Str := ["CasFail"]
noncomputable def p_need_shape : { g : List S → Option Fl // ∀ W : Gl, Has W → Bx (DenS W 3 L_need_shape G_need_shape (fB (stAt 92)) g) } := ⟨_, fun W H => 
    (BS.one (BO.if (BT.not (BT.val (BE.var 0))) BS.stuck BS.nil))⟩
theorem at_need_shape {W : Gl} (H : Has W) : FnAt W "need_shape" ["is_right", "text"] (fB (stAt 92)) (fS (stAt 92)) :=
  fnAt_i H 72 92 (by decide +kernel) (by kernel_rfl) (by kernel_rfl) (by kernel_rfl) (by kernel_rfl) (fun _ _ _ => b2 fun _ _ => by kernel_rfl)
noncomputable def F_need_shape : List D → Option D := runF p_need_shape.1 2 0
theorem C_need_shape {W : Gl} (H : Has W) : Contract W "need_shape" 4 F_need_shape := Contract.of H.toFine 0 (at_need_shape H) (FnS.of (by decide +kernel)) (p_need_shape.2 W H).h

/- copied -/
noncomputable abbrev L_copied : Lay := [("a", .loc)]
noncomputable abbrev G_copied : List Str := []
noncomputable abbrev L1_copied : Lay := [("row", .loc), ("a", .no)]
noncomputable abbrev G1_copied : List Str := ["list"]
noncomputable def p_copied : { g : List S → Option Fl // ∀ W : Gl, Has W → Bx (DenS W 3 L_copied G_copied (fB (stAt 93)) g) } := ⟨_, fun W H => 
    (BS.one (BO.retF (BF.comp (Γ' := L1_copied) (G' := G1_copied) (tl := 1) (CompS.of (by decide +kernel)) (BI.seq (BE.var 0)) (BTg.name 0) BIfs.nil (BE.fresh (BF.callB H.toFine "list" sem_list (.inr ⟨_, rfl⟩) (by decide +kernel) (by decide +kernel) boot_list (BA.cons (BE.var 0) BA.nil) (by decide +kernel) (by decide) rfl)))))⟩
theorem at_copied {W : Gl} (H : Has W) : FnAt W "copied" ["a"] (fB (stAt 93)) (fS (stAt 93)) :=
  fnAt_i H 73 93 (by decide +kernel) (by kernel_rfl) (by kernel_rfl) (by kernel_rfl) (by kernel_rfl) (fun _ _ _ => b1 fun _ => by kernel_rfl)
noncomputable def F_copied : List D → Option (List D) := runFF p_copied.1 1 0
theorem C_copied {W : Gl} (H : Has W) : ContractF W "copied" 4 F_copied := ContractF.of H.toFine 0 (at_copied H) (FnS.of (by decide +kernel)) (p_copied.2 W H).h

/- swap_rows -/
noncomputable abbrev L_swap_rows : Lay := [("a", .loc), ("one", .loc), ("other", .loc)]
noncomputable abbrev G_swap_rows : List Str := []
noncomputable def p_swap_rows : { g : List S → Option (List S) // ∀ W : Gl, Has W → Bx (DenK W 3 L_swap_rows G_swap_rows (hdS (fB (stAt 94))) g) } := ⟨_, fun W H => 
    (BK.swap 0 1 2 (by decide) rfl (by decide) rfl (by decide) rfl (by decide) (by decide) (by decide))⟩
theorem at_swap_rows {W : Gl} (H : Has W) : FnAt W "swap_rows" ["a", "one", "other"] [hdS (fB (stAt 94))] (fS (stAt 94)) :=
  fnAt_i H 74 94 (by decide +kernel) (by kernel_rfl) (by kernel_rfl) (by kernel_rfl) (by kernel_rfl) (fun _ _ _ => b3 fun _ _ _ => by kernel_rfl)
noncomputable def F_swap_rows : List D → List D → Option (List D) := runIO p_swap_rows.1 2 0
theorem C_swap_rows {W : Gl} (H : Has W) : ContractIO W "swap_rows" 4 F_swap_rows := ContractIO.of H.toFine 0 (at_swap_rows H) (FnS.of (by decide +kernel)) (by decide) (p_swap_rows.2 W H).h

/- shape -/
noncomputable abbrev L_shape : Lay := [("a", .loc)]
noncomputable abbrev G_shape : List Str := ["len"]
noncomputable def p_shape : { g : List S → Option Fl // ∀ W : Gl, Has W → Bx (DenS W 3 L_shape G_shape (fB (stAt 91)) g) } := ⟨_, fun W H => 
    (BS.one (BO.ret (BE.tup (BA.cons (BE.len H.toFine (BA.cons (BE.var 0) BA.nil)) (BA.cons (BE.ite (BT.cmp sem_gt (BE.len H.toFine (BA.cons (BE.var 0) BA.nil)) (BE.int _)) (BE.len H.toFine (BA.cons (BE.idx (BE.var 0) (BE.int _)) BA.nil)) (BE.int _)) BA.nil)))))⟩
theorem at_shape {W : Gl} (H : Has W) : FnAt W "shape" ["a"] (fB (stAt 91)) (fS (stAt 91)) :=
  fnAt_i H 71 91 (by decide +kernel) (by kernel_rfl) (by kernel_rfl) (by kernel_rfl) (by kernel_rfl) (fun _ _ _ => b1 fun _ => by kernel_rfl)
noncomputable def F_shape : List D → Option D := runF p_shape.1 1 0
theorem C_shape {W : Gl} (H : Has W) : Contract W "shape" 4 F_shape := Contract.of H.toFine 0 (at_shape H) (FnS.of (by decide +kernel)) (p_shape.2 W H).h

/- take_off -/
noncomputable abbrev L_take_off : Lay := [("a", .cel), ("row", .loc), ("source", .cel), ("number", .cel)]
noncomputable abbrev G_take_off : List Str := ["enumerate"]
noncomputable abbrev L1_take_off : Lay := [("at", .loc), ("one", .loc), ("a", .cel), ("row", .no), ("source", .cel), ("number", .cel)]
noncomputable abbrev G1_take_off : List Str := ["rmul", "rsub"]
noncomputable def p_take_off : { g : List S → Option (List S) // ∀ W : Gl, Has W → Bx (DenK W 9 L_take_off G_take_off (hdS (fB (stAt 95))) g) } := ⟨_, fun W H => 
    (BK.setItem 0 (BE.fresh (BF.comp (Γ' := L1_take_off) (G' := G1_take_off) (tl := 2) (CompS.of (by decide +kernel)) (BI.enum H.toFine (BA.cons (BE.oidx 0 (BE.var 1)) BA.nil)) (BTg.tup (Names.cons 0 rfl (by decide) (by decide) (Names.cons 1 rfl (by decide) (by decide) Names.nil))) BIfs.nil (BE.call H.toOk (C_rsub H) (BA.cons (BE.var 1) (BA.cons (BE.call H.toOk (C_rmul H) (BA.cons (BE.var 5) (BA.cons (BE.idx (BE.oidx 2 (BE.var 4)) (BE.var 0)) BA.nil))) BA.nil))))) (BE.var 1))⟩
theorem at_take_off {W : Gl} (H : Has W) : FnAt W "take_off" ["a", "row", "source", "number"] [hdS (fB (stAt 95))] (fS (stAt 95)) :=
  fnAt_i H 75 95 (by decide +kernel) (by kernel_rfl) (by kernel_rfl) (by kernel_rfl) (by kernel_rfl) (fun _ _ _ => b4 fun _ _ _ _ => by kernel_rfl)
noncomputable def F_take_off : List D → List D → Option (List D) := runIO p_take_off.1 3 0
theorem C_take_off {W : Gl} (H : Has W) : ContractIO W "take_off" 10 F_take_off := ContractIO.of H.toFine 0 (at_take_off H) (FnS.of (by decide +kernel)) (by decide) (p_take_off.2 W H).h

/- echelon -/
noncomputable abbrev L_echelon : Lay := [("a", .loc), ("found", .cel), ("pivots", .loc), ("column", .cel), ("row", .loc), ("spots", .loc), ("lead", .cel), ("other", .loc)]
noncomputable abbrev G_echelon : List Str := ["R0", "copied", "len", "range", "shape", "swap_rows", "take_off"]
noncomputable abbrev L1_echelon : Lay := [("at", .loc), ("a", .no), ("found", .cel), ("pivots", .no), ("column", .cel), ("row", .no), ("spots", .no), ("lead", .no), ("other", .no)]
noncomputable abbrev G1_echelon : List Str := ["R0"]
noncomputable abbrev L2_echelon : Lay := [("one", .loc), ("a", .no), ("found", .no), ("pivots", .no), ("column", .no), ("row", .no), ("spots", .no), ("lead", .cel), ("other", .no)]
noncomputable abbrev G2_echelon : List Str := ["rdiv"]
noncomputable def p_echelon : { g : List S → Option Fl // ∀ W : Gl, Has W → Bx (DenS W 11 L_echelon G_echelon (fB (stAt 96)) g) } := ⟨_, fun W H => 
    (BS.cons (BO.tupP (k := 8) (Names.cons 1 rfl (by decide) (by decide) (Names.cons 2 rfl (by decide) (by decide) Names.nil)) (BIts.consF (BF.call H.toOk (C_copied H) (BA.cons (BE.var 0) BA.nil)) (BIts.consF (BF.list BA.nil) BIts.nil)))
    (BS.cons (BO.for (k := 8) (BI.rng1 H.toFine (BA.cons (BE.idx (BE.call H.toOk (C_shape H) (BA.cons (BE.var 0) BA.nil)) (BE.int _)) BA.nil)) (BTg.name 3) (BS.cons (BO.assign 4 (BE.olen H.toFine 2))
    (BS.cons (BO.compE 5 (Γ' := L1_echelon) (G' := G1_echelon) (tl := 1) (CompS.of (by decide +kernel)) (BI.rng2 H.toFine (BA.cons (BE.var 4) (BA.cons (BE.olen H.toFine 1) BA.nil))) (BTg.name 0) (BIfs.one (BT.cmp sem_ne (BE.idx (BE.oidx 2 (BE.var 0)) (BE.var 4)) (BE.glob H.toOk (K_R0 H)))) (BE.var 0))
    (BS.cons (BO.if (BT.cmp sem_eq (BE.len H.toFine (BA.cons (BE.var 5) BA.nil)) (BE.int _)) (BS.one BO.cont) BS.nil)
    (BS.cons (BO.io 1 H.toOk (C_swap_rows H) (BA.cons (BE.var 4) (BA.cons (BE.idx (BE.var 5) (BE.int _)) BA.nil)))
    (BS.cons (BO.assign 6 (BE.idx (BE.oidx 1 (BE.var 4)) (BE.var 3)))
    (BS.cons (BO.setItem 1 (BE.fresh (BF.comp (Γ' := L2_echelon) (G' := G2_echelon) (tl := 1) (CompS.of (by decide +kernel)) (BI.seq (BE.oidx 1 (BE.var 4))) (BTg.name 0) BIfs.nil (BE.call H.toOk (C_rdiv H) (BA.cons (BE.var 0) (BA.cons (BE.var 7) BA.nil))))) (BE.var 4))
    (BS.cons (BO.for (k := 8) (BI.rng1 H.toFine (BA.cons (BE.olen H.toFine 1) BA.nil)) (BTg.name 7) (BS.one (BO.if (BT.and (BT.cmp sem_ne (BE.var 7) (BE.var 4)) (BT.cmp sem_ne (BE.idx (BE.oidx 1 (BE.var 7)) (BE.var 3)) (BE.glob H.toOk (K_R0 H)))) (BS.one (BO.io 1 H.toOk (C_take_off H) (BA.cons (BE.var 7) (BA.cons (BE.var 4) (BA.cons (BE.idx (BE.oidx 1 (BE.var 7)) (BE.var 3)) BA.nil))))) BS.nil)))
    (BS.one (BO.append 2 (BE.var 3)))))))))))
    (BS.freeze 1 (BS.freeze 2 (BS.one (BO.ret (BE.tup (BA.cons (BE.var 1) (BA.cons (BE.var 2) BA.nil)))))))))⟩
theorem at_echelon {W : Gl} (H : Has W) : FnAt W "echelon" ["a"] (fB (stAt 96)) (fS (stAt 96)) :=
  fnAt_i H 76 96 (by decide +kernel) (by kernel_rfl) (by kernel_rfl) (by kernel_rfl) (by kernel_rfl) (fun _ _ _ => b1 fun _ => by kernel_rfl)
noncomputable def F_echelon : List D → Option D := runF p_echelon.1 1 7
theorem C_echelon {W : Gl} (H : Has W) : Contract W "echelon" 12 F_echelon := Contract.of H.toFine 7 (at_echelon H) (FnS.of (by decide +kernel)) (p_echelon.2 W H).h

/- null_base -/
noncomputable abbrev L_null_base : Lay := [("a", .loc), ("reduced", .loc), ("pivots", .loc), ("found", .loc), ("column", .loc), ("one", .loc), ("at", .loc), ("spot", .loc)]
noncomputable abbrev G_null_base : List Str := ["R0", "R1", "echelon", "enumerate", "range", "rneg", "shape"]
noncomputable def p_null_base : { g : List S → Option Fl // ∀ W : Gl, Has W → Bx (DenS W 13 L_null_base G_null_base (fB (stAt 98)) g) } := ⟨_, fun W H => 
    (BS.cons (BO.tupV (k := 8) (Names.cons 1 rfl (by decide) (by decide) (Names.cons 2 rfl (by decide) (by decide) Names.nil)) (BE.call H.toOk (C_echelon H) (BA.cons (BE.var 0) BA.nil)))
    (BS.cons (BO.assignF 3 (BF.list BA.nil))
    (BS.cons (BO.for (k := 8) (BI.rng1 H.toFine (BA.cons (BE.idx (BE.call H.toOk (C_shape H) (BA.cons (BE.var 0) BA.nil)) (BE.int _)) BA.nil)) (BTg.name 4) (BS.cons (BO.if (BT.cmp sem_in (BE.var 4) (BE.var 2)) (BS.one BO.cont) BS.nil)
    (BS.cons (BO.assignF 5 (BF.bin sem_mulF (BE.fresh (BF.list (BA.cons (BE.glob H.toOk (K_R0 H)) BA.nil))) (BE.idx (BE.call H.toOk (C_shape H) (BA.cons (BE.var 0) BA.nil)) (BE.int _))))
    (BS.cons (BO.setItem 5 (BE.glob H.toOk (K_R1 H)) (BE.var 4))
    (BS.cons (BO.for (k := 8) (BI.enum H.toFine (BA.cons (BE.var 2) BA.nil)) (BTg.tup (Names.cons 6 rfl (by decide) (by decide) (Names.cons 7 rfl (by decide) (by decide) Names.nil))) (BS.one (BO.setItem 5 (BE.call H.toOk (C_rneg H) (BA.cons (BE.idx (BE.idx (BE.var 1) (BE.var 6)) (BE.var 4)) BA.nil)) (BE.var 7))))
    (BS.freeze 5 (BS.one (BO.append 3 (BE.var 5)))))))))
    (BS.freeze 3 (BS.one (BO.ret (BE.var 3)))))))⟩
theorem at_null_base {W : Gl} (H : Has W) : FnAt W "null_base" ["a"] (fB (stAt 98)) (fS (stAt 98)) :=
  fnAt_i H 77 98 (by decide +kernel) (by kernel_rfl) (by kernel_rfl) (by kernel_rfl) (by kernel_rfl) (fun _ _ _ => b1 fun _ => by kernel_rfl)
noncomputable def F_null_base : List D → Option D := runF p_null_base.1 1 7
theorem C_null_base {W : Gl} (H : Has W) : Contract W "null_base" 14 F_null_base := Contract.of H.toFine 7 (at_null_base H) (FnS.of (by decide +kernel)) (p_null_base.2 W H).h

/- solve_system -/
noncomputable abbrev L_solve_system : Lay := [("a", .loc), ("b", .cel), ("width", .loc), ("reduced", .loc), ("pivots", .loc), ("found", .loc), ("at", .loc), ("column", .loc)]
noncomputable abbrev G_solve_system : List Str := ["R0", "echelon", "enumerate", "len", "need_shape", "null_base", "shape"]
noncomputable abbrev L1_solve_system : Lay := [("at", .loc), ("row", .loc), ("a", .no), ("b", .cel), ("width", .no), ("reduced", .no), ("pivots", .no), ("found", .no), ("at", .no), ("column", .no)]
noncomputable abbrev G1_solve_system : List Str := ["list"]
noncomputable def p_solve_system : { g : List S → Option Fl // ∀ W : Gl, Has W → Bx (DenS W 15 L_solve_system G_solve_system (fB (stAt 99)) g) } := ⟨_, fun W H => 
    (BS.cons (BO.drop (BE.call H.toOk (C_need_shape H) (BA.cons (BE.cmp sem_eq (BE.len H.toFine (BA.cons (BE.var 0) BA.nil)) (BE.len H.toFine (BA.cons (BE.var 1) BA.nil))) (BA.cons (BE.str _) BA.nil))))
    (BS.cons (BO.assign 2 (BE.idx (BE.call H.toOk (C_shape H) (BA.cons (BE.var 0) BA.nil)) (BE.int _)))
    (BS.cons (BO.tupV (k := 8) (Names.cons 3 rfl (by decide) (by decide) (Names.cons 4 rfl (by decide) (by decide) Names.nil)) (BE.call H.toOk (C_echelon H) (BA.cons (BE.fresh (BF.comp (Γ' := L1_solve_system) (G' := G1_solve_system) (tl := 2) (CompS.of (by decide +kernel)) (BI.enum H.toFine (BA.cons (BE.var 0) BA.nil)) (BTg.tup (Names.cons 0 rfl (by decide) (by decide) (Names.cons 1 rfl (by decide) (by decide) Names.nil))) BIfs.nil (BE.fresh (BF.bin sem_addF (BE.fresh (BF.callB H.toFine "list" sem_list (.inr ⟨_, rfl⟩) (by decide +kernel) (by decide +kernel) boot_list (BA.cons (BE.var 1) BA.nil) (by decide +kernel) (by decide) rfl)) (BE.fresh (BF.list (BA.cons (BE.idx (BE.var 3) (BE.var 0)) BA.nil))))))) BA.nil)))
    (BS.cons (BO.if (BT.cmp sem_in (BE.var 2) (BE.var 4)) (BS.one (BO.ret (BE.tup (BA.cons BE.none (BA.cons (BE.call H.toOk (C_null_base H) (BA.cons (BE.var 0) BA.nil)) BA.nil))))) BS.nil)
    (BS.cons (BO.assignF 5 (BF.bin sem_mulF (BE.fresh (BF.list (BA.cons (BE.glob H.toOk (K_R0 H)) BA.nil))) (BE.var 2)))
    (BS.cons (BO.for (k := 8) (BI.enum H.toFine (BA.cons (BE.var 4) BA.nil)) (BTg.tup (Names.cons 6 rfl (by decide) (by decide) (Names.cons 7 rfl (by decide) (by decide) Names.nil))) (BS.one (BO.setItem 5 (BE.idx (BE.idx (BE.var 3) (BE.var 6)) (BE.var 2)) (BE.var 7))))
    (BS.freeze 5 (BS.one (BO.ret (BE.tup (BA.cons (BE.var 5) (BA.cons (BE.call H.toOk (C_null_base H) (BA.cons (BE.var 0) BA.nil)) BA.nil))))))))))))⟩
theorem at_solve_system {W : Gl} (H : Has W) : FnAt W "solve_system" ["a", "b"] (fB (stAt 99)) (fS (stAt 99)) :=
  fnAt_i H 78 99 (by decide +kernel) (by kernel_rfl) (by kernel_rfl) (by kernel_rfl) (by kernel_rfl) (fun _ _ _ => b2 fun _ _ => by kernel_rfl)
noncomputable def F_solve_system : List D → Option D := runF p_solve_system.1 2 6
theorem C_solve_system {W : Gl} (H : Has W) : Contract W "solve_system" 16 F_solve_system := Contract.of H.toFine 6 (at_solve_system H) (FnS.of (by decide +kernel)) (p_solve_system.2 W H).h

/- trimmed -/
noncomputable abbrev L_trimmed : Lay := [("p", .loc), ("size", .loc)]
noncomputable abbrev G_trimmed : List Str := ["R0", "len"]
noncomputable def p_trimmed : { g : List S → Option Fl // ∀ W : Gl, Has W → Bx (DenS W 3 L_trimmed G_trimmed (fB (stAt 128)) g) } := ⟨_, fun W H => 
    (BS.cons (BO.assign 1 (BE.len H.toFine (BA.cons (BE.var 0) BA.nil)))
    (BS.cons (BO.while 100000 (BT.and (BT.cmp sem_gt (BE.var 1) (BE.int _)) (BT.cmp sem_eq (BE.idx (BE.var 0) (BE.bin sem_sub (BE.var 1) (BE.int _))) (BE.glob H.toOk (K_R0 H)))) (BS.one (BO.aug 1 sem_isub (BE.int _))))
    (BS.one (BO.ret (BE.fresh (BF.sliceU (BE.var 0) (BE.var 1)))))))⟩
theorem at_trimmed {W : Gl} (H : Has W) : FnAt W "trimmed" ["p"] (fB (stAt 128)) (fS (stAt 128)) :=
  fnAt_i H 102 128 (by decide +kernel) (by kernel_rfl) (by kernel_rfl) (by kernel_rfl) (by kernel_rfl) (fun _ _ _ => b1 fun _ => by kernel_rfl)
noncomputable def F_trimmed : List D → Option D := runF p_trimmed.1 1 1
theorem C_trimmed {W : Gl} (H : Has W) : Contract W "trimmed" 4 F_trimmed := Contract.of H.toFine 1 (at_trimmed H) (FnS.of (by decide +kernel)) (p_trimmed.2 W H).h

/- key_solution -/
noncomputable abbrev L_key_solution : Lay := [("a", .cel), ("b", .cel), ("c", .cel), ("most", .loc), ("columns", .cel), ("height", .loc), ("rows", .loc), ("found", .loc)]
noncomputable abbrev G_key_solution : List Str := ["CasFail", "MOST_DEGREE", "len", "max", "most_degree", "range", "solve_system", "str", "trimmed"]
noncomputable abbrev L1_key_solution : Lay := [("power", .loc), ("a", .cel), ("b", .cel), ("c", .no), ("most", .no), ("columns", .no), ("height", .no), ("rows", .no), ("found", .no)]
noncomputable abbrev G1_key_solution : List Str := ["R1", "difference_of", "qraise"]
noncomputable abbrev L2_key_solution : Lay := [("column", .loc), ("a", .no), ("b", .no), ("c", .no), ("most", .no), ("columns", .no), ("height", .no), ("rows", .no), ("found", .no)]
noncomputable abbrev G2_key_solution : List Str := ["len"]
noncomputable abbrev L3_key_solution : Lay := [("power", .cel), ("a", .no), ("b", .no), ("c", .no), ("most", .no), ("columns", .cel), ("height", .no), ("rows", .no), ("found", .no)]
noncomputable abbrev G3_key_solution : List Str := []
noncomputable abbrev L4_key_solution : Lay := [("column", .loc), ("power", .cel), ("a", .no), ("b", .no), ("c", .no), ("most", .no), ("columns", .no), ("height", .no), ("rows", .no), ("found", .no)]
noncomputable abbrev G4_key_solution : List Str := ["coefficient_at"]
noncomputable abbrev L5_key_solution : Lay := [("power", .loc), ("a", .no), ("b", .no), ("c", .cel), ("most", .no), ("columns", .no), ("height", .no), ("rows", .no), ("found", .no)]
noncomputable abbrev G5_key_solution : List Str := ["coefficient_at"]
noncomputable def p_key_solution : { g : List S → Option Fl // ∀ W : Gl, Has W → Bx (DenS W 17 L_key_solution G_key_solution (fB (stAt 127)) g) } := ⟨_, fun W H => 
    (BS.cons (BO.if (BT.cmp sem_eq (BE.var 2) (BE.fresh (BF.list BA.nil))) (BS.one (BO.ret (BE.fresh (BF.list BA.nil)))) BS.nil)
    (BS.cons (BO.assign 3 (BE.call H.toOk (C_most_degree H) (BA.cons (BE.var 0) (BA.cons (BE.var 1) (BA.cons (BE.var 2) BA.nil)))))
    (BS.cons (BO.if (BT.cmp sem_lt (BE.var 3) (BE.int _)) (BS.one (BO.ret BE.none)) BS.nil)
    (BS.cons (BO.if (BT.cmp sem_gt (BE.var 3) (BE.glob H.toOk (K_MOST_DEGREE H))) BS.stuck BS.nil)
    (BS.cons (BO.assign 4 (BE.fresh (BF.comp (Γ' := L1_key_solution) (G' := G1_key_solution) (tl := 1) (CompS.of (by decide +kernel)) (BI.rng1 H.toFine (BA.cons (BE.bin sem_add (BE.var 3) (BE.int _)) BA.nil)) (BTg.name 0) BIfs.nil (BE.call H.toOk (C_difference_of H) (BA.cons (BE.var 1) (BA.cons (BE.var 2) (BA.cons (BE.call H.toOk (C_qraise H) (BA.cons (BE.fresh (BF.list (BA.cons (BE.glob H.toOk (K_R1 H)) BA.nil))) (BA.cons (BE.var 0) BA.nil))) BA.nil)))))) (hs := fun _ es => swaps_cel (i := 4) es rfl))
    (BS.cons (BO.assign 5 (BE.callB H.toFine "max" sem_maxl (.inl ⟨_, rfl⟩) (by decide +kernel) (by decide +kernel) boot_max (BA.cons (BE.fresh (BF.bin sem_addF (BE.fresh (BF.comp (Γ' := L2_key_solution) (G' := G2_key_solution) (tl := 1) (CompS.of (by decide +kernel)) (BI.seq (BE.var 4)) (BTg.name 0) BIfs.nil (BE.len H.toFine (BA.cons (BE.var 0) BA.nil)))) (BE.fresh (BF.list (BA.cons (BE.len H.toFine (BA.cons (BE.var 2) BA.nil)) BA.nil))))) BA.nil) (by decide +kernel) (by decide) rfl))
    (BS.cons (BO.compE 6 (Γ' := L3_key_solution) (G' := G3_key_solution) (tl := 1) (CompS.of (by decide +kernel)) (BI.rng1 H.toFine (BA.cons (BE.var 5) BA.nil)) (BTg.name 0) BIfs.nil (BE.fresh (BF.comp (Γ' := L4_key_solution) (G' := G4_key_solution) (tl := 1) (CompS.of (by decide +kernel)) (BI.seq (BE.var 5)) (BTg.name 0) BIfs.nil (BE.call H.toOk (C_coefficient_at H) (BA.cons (BE.var 0) (BA.cons (BE.var 1) BA.nil))))))
    (BS.cons (BO.assign 7 (BE.idx (BE.call H.toOk (C_solve_system H) (BA.cons (BE.var 6) (BA.cons (BE.fresh (BF.comp (Γ' := L5_key_solution) (G' := G5_key_solution) (tl := 1) (CompS.of (by decide +kernel)) (BI.rng1 H.toFine (BA.cons (BE.var 5) BA.nil)) (BTg.name 0) BIfs.nil (BE.call H.toOk (C_coefficient_at H) (BA.cons (BE.var 3) (BA.cons (BE.var 0) BA.nil))))) BA.nil))) (BE.int _)))
    (BS.one (BO.ret (BE.ite (BT.cmp sem_isN (BE.var 7) BE.none) BE.none (BE.call H.toOk (C_trimmed H) (BA.cons (BE.var 7) BA.nil)))))))))))))⟩
theorem at_key_solution {W : Gl} (H : Has W) : FnAt W "key_solution" ["a", "b", "c"] (fB (stAt 127)) (fS (stAt 127)) :=
  fnAt_i H 101 127 (by decide +kernel) (by kernel_rfl) (by kernel_rfl) (by kernel_rfl) (by kernel_rfl) (fun _ _ _ => b3 fun _ _ _ => by kernel_rfl)
noncomputable def F_key_solution : List D → Option D := runF p_key_solution.1 3 5
theorem C_key_solution {W : Gl} (H : Has W) : Contract W "key_solution" 18 F_key_solution := Contract.of H.toFine 5 (at_key_solution H) (FnS.of (by decide +kernel)) (p_key_solution.2 W H).h

/- fmake -/
noncomputable abbrev L_fmake : Lay := [("top", .loc), ("bottom", .loc), ("common", .loc), ("scale", .loc)]
noncomputable abbrev G_fmake : List Str := ["CasFail", "F0", "qdegree", "qdivmod", "qgcd", "qlead", "qscale", "rinv"]
noncomputable def p_fmake : { g : List S → Option Fl // ∀ W : Gl, Has W → Bx (DenS W 17 L_fmake G_fmake (fB (stAt 118)) g) } := ⟨_, fun W H => 
    (BS.cons (BO.if (BT.cmp sem_eq (BE.var 1) (BE.fresh (BF.list BA.nil))) BS.stuck BS.nil)
    (BS.cons (BO.if (BT.cmp sem_eq (BE.var 0) (BE.fresh (BF.list BA.nil))) (BS.one (BO.ret (BE.glob H.toOk (K_F0 H)))) BS.nil)
    (BS.cons (BO.assign 2 (BE.call H.toOk (C_qgcd H) (BA.cons (BE.var 0) (BA.cons (BE.var 1) BA.nil))))
    (BS.cons (BO.if (BT.cmp sem_gt (BE.call H.toOk (C_qdegree H) (BA.cons (BE.var 2) BA.nil)) (BE.int _)) (BS.one (BO.tupS (k := 4) (names := ["top", "bottom"]) (Names.cons 0 rfl (by decide) (by decide) (Names.cons 1 rfl (by decide) (by decide) Names.nil)) (BIts.consE (BE.idx (BE.call H.toOk (C_qdivmod H) (BA.cons (BE.var 0) (BA.cons (BE.var 2) BA.nil))) (BE.int _)) (BIts.consE (BE.idx (BE.call H.toOk (C_qdivmod H) (BA.cons (BE.var 1) (BA.cons (BE.var 2) BA.nil))) (BE.int _)) BIts.nil)))) BS.nil)
    (BS.cons (BO.assign 3 (BE.call H.toOk (C_rinv H) (BA.cons (BE.call H.toOk (C_qlead H) (BA.cons (BE.var 1) BA.nil)) BA.nil)))
    (BS.one (BO.ret (BE.tup (BA.cons (BE.call H.toOk (C_qscale H) (BA.cons (BE.var 0) (BA.cons (BE.var 3) BA.nil))) (BA.cons (BE.call H.toOk (C_qscale H) (BA.cons (BE.var 1) (BA.cons (BE.var 3) BA.nil))) BA.nil))))))))))⟩
theorem at_fmake {W : Gl} (H : Has W) : FnAt W "fmake" ["top", "bottom"] (fB (stAt 118)) (fS (stAt 118)) :=
  fnAt_i H 94 118 (by decide +kernel) (by kernel_rfl) (by kernel_rfl) (by kernel_rfl) (by kernel_rfl) (fun _ _ _ => b2 fun _ _ => by kernel_rfl)
noncomputable def F_fmake : List D → Option D := runF p_fmake.1 2 2
theorem C_fmake {W : Gl} (H : Has W) : Contract W "fmake" 18 F_fmake := Contract.of H.toFine 2 (at_fmake H) (FnS.of (by decide +kernel)) (p_fmake.2 W H).h

/- _law_pair -/
noncomputable abbrev L_law_pair : Lay := [("one", .loc), ("other", .loc)]
noncomputable abbrev G_law_pair : List Str := []
noncomputable def p_law_pair : { g : List S → Option Fl // ∀ W : Gl, Has W → Bx (DenS W 3 L_law_pair G_law_pair (fB (stAt 132)) g) } := ⟨_, fun W H => 
    (BS.one (BO.ret (BE.fresh (BF.list (BA.cons (BE.tup (BA.cons (BE.bin sem_mul (BE.var 0) (BE.var 1)) (BA.cons (BE.int _) BA.nil))) (BA.cons (BE.tup (BA.cons (BE.bin sem_add (BE.var 0) (BE.var 1)) (BA.cons (BE.int _) BA.nil))) (BA.cons (BE.tup (BA.cons (BE.int _) (BA.cons (BE.int _) BA.nil))) BA.nil)))))))⟩
theorem at_law_pair {W : Gl} (H : Has W) : FnAt W "_law_pair" ["one", "other"] (fB (stAt 132)) (fS (stAt 132)) :=
  fnAt_i H 105 132 (by decide +kernel) (by kernel_rfl) (by kernel_rfl) (by kernel_rfl) (by kernel_rfl) (fun _ _ _ => b2 fun _ _ => by kernel_rfl)
noncomputable def F_law_pair : List D → Option D := runF p_law_pair.1 2 0
theorem C_law_pair {W : Gl} (H : Has W) : Contract W "_law_pair" 4 F_law_pair := Contract.of H.toFine 0 (at_law_pair H) (FnS.of (by decide +kernel)) (p_law_pair.2 W H).h

/- qat -/
noncomputable abbrev L_qat : Lay := [("p", .loc), ("r", .loc), ("found", .loc), ("number", .loc)]
noncomputable abbrev G_qat : List Str := ["R0", "radd", "reversed", "rmul"]
noncomputable def p_qat : { g : List S → Option Fl // ∀ W : Gl, Has W → Bx (DenS W 9 L_qat G_qat (fB (stAt 113)) g) } := ⟨_, fun W H => 
    (BS.cons (BO.assign 2 (BE.glob H.toOk (K_R0 H)))
    (BS.cons (BO.for (k := 4) (BI.rev H.toFine (BA.cons (BE.var 0) BA.nil)) (BTg.name 3) (BS.one (BO.assign 2 (BE.call H.toOk (C_radd H) (BA.cons (BE.call H.toOk (C_rmul H) (BA.cons (BE.var 2) (BA.cons (BE.var 1) BA.nil))) (BA.cons (BE.var 3) BA.nil))))))
    (BS.one (BO.ret (BE.var 2)))))⟩
theorem at_qat {W : Gl} (H : Has W) : FnAt W "qat" ["p", "r"] (fB (stAt 113)) (fS (stAt 113)) :=
  fnAt_i H 91 113 (by decide +kernel) (by kernel_rfl) (by kernel_rfl) (by kernel_rfl) (by kernel_rfl) (fun _ _ _ => b2 fun _ _ => by kernel_rfl)
noncomputable def F_qat : List D → Option D := runF p_qat.1 2 2
theorem C_qat {W : Gl} (H : Has W) : Contract W "qat" 10 F_qat := Contract.of H.toFine 2 (at_qat H) (FnS.of (by decide +kernel)) (p_qat.2 W H).h

/- fat -/
noncomputable abbrev L_fat : Lay := [("f", .loc), ("r", .loc), ("below", .loc)]
noncomputable abbrev G_fat : List Str := ["R0", "qat", "rdiv"]
noncomputable def p_fat : { g : List S → Option Fl // ∀ W : Gl, Has W → Bx (DenS W 11 L_fat G_fat (fB (stAt 119)) g) } := ⟨_, fun W H => 
    (BS.cons (BO.assign 2 (BE.call H.toOk (C_qat H) (BA.cons (BE.idx (BE.var 0) (BE.int _)) (BA.cons (BE.var 1) BA.nil))))
    (BS.one (BO.ret (BE.ite (BT.cmp sem_eq (BE.var 2) (BE.glob H.toOk (K_R0 H))) BE.none (BE.call H.toOk (C_rdiv H) (BA.cons (BE.call H.toOk (C_qat H) (BA.cons (BE.idx (BE.var 0) (BE.int _)) (BA.cons (BE.var 1) BA.nil))) (BA.cons (BE.var 2) BA.nil)))))))⟩
theorem at_fat {W : Gl} (H : Has W) : FnAt W "fat" ["f", "r"] (fB (stAt 119)) (fS (stAt 119)) :=
  fnAt_i H 95 119 (by decide +kernel) (by kernel_rfl) (by kernel_rfl) (by kernel_rfl) (by kernel_rfl) (fun _ _ _ => b2 fun _ _ => by kernel_rfl)
noncomputable def F_fat : List D → Option D := runF p_fat.1 2 1
theorem C_fat {W : Gl} (H : Has W) : Contract W "fat" 12 F_fat := Contract.of H.toFine 1 (at_fat H) (FnS.of (by decide +kernel)) (p_fat.2 W H).h

end Gos
end

section
open PySem PySem.W PyProof.Rows
set_option maxHeartbeats 2000000
namespace Gos
open PySem

/- parted -/
noncomputable abbrev L_parted : Lay := [("top", .loc), ("bottom", .loc), ("a", .loc), ("b", .loc), ("c", .loc), ("h", .loc), ("g", .loc), ("step", .loc)]
noncomputable abbrev G_parted : List Str := ["CasFail", "MOST_DEGREE", "R1", "dispersions", "moved", "qdegree", "qdivmod", "qgcd", "qmul", "range", "str", "to_z"]
noncomputable def p_parted : { g : List S → Option Fl // ∀ W : Gl, Has W → Bx (DenS W 29 L_parted G_parted (fB (stAt 123)) g) } := ⟨_, fun W H => 
    (BS.cons (BO.tupS (k := 8) (names := ["a", "b", "c"]) (Names.cons 2 rfl (by decide) (by decide) (Names.cons 3 rfl (by decide) (by decide) (Names.cons 4 rfl (by decide) (by decide) Names.nil))) (BIts.consE (BE.var 0) (BIts.consE (BE.var 1) (BIts.consE (BE.fresh (BF.list (BA.cons (BE.glob H.toOk (K_R1 H)) BA.nil))) BIts.nil))))
    (BS.cons (BO.for (k := 8) (BI.seq (BE.call H.toOk (C_dispersions H) (BA.cons (BE.idx (BE.call H.toOk (C_to_z H) (BA.cons (BE.var 2) BA.nil)) (BE.int _)) (BA.cons (BE.idx (BE.call H.toOk (C_to_z H) (BA.cons (BE.var 3) BA.nil)) (BE.int _)) BA.nil)))) (BTg.name 5) (BS.cons (BO.assign 6 (BE.call H.toOk (C_qgcd H) (BA.cons (BE.var 2) (BA.cons (BE.call H.toOk (C_moved H) (BA.cons (BE.var 3) (BA.cons (BE.var 5) BA.nil))) BA.nil))))
    (BS.cons (BO.if (BT.cmp sem_gt (BE.bin sem_mul (BE.var 5) (BE.call H.toOk (C_qdegree H) (BA.cons (BE.var 6) BA.nil))) (BE.glob H.toOk (K_MOST_DEGREE H))) BS.stuck BS.nil)
    (BS.one (BO.if (BT.cmp sem_gt (BE.call H.toOk (C_qdegree H) (BA.cons (BE.var 6) BA.nil)) (BE.int _)) (BS.cons (BO.tupS (k := 8) (names := ["a", "b"]) (Names.cons 2 rfl (by decide) (by decide) (Names.cons 3 rfl (by decide) (by decide) Names.nil)) (BIts.consE (BE.idx (BE.call H.toOk (C_qdivmod H) (BA.cons (BE.var 2) (BA.cons (BE.var 6) BA.nil))) (BE.int _)) (BIts.consE (BE.idx (BE.call H.toOk (C_qdivmod H) (BA.cons (BE.var 3) (BA.cons (BE.call H.toOk (C_moved H) (BA.cons (BE.var 6) (BA.cons (BE.un sem_neg (BE.var 5)) BA.nil))) BA.nil))) (BE.int _)) BIts.nil)))
    (BS.one (BO.for (k := 8) (BI.rng2 H.toFine (BA.cons (BE.int _) (BA.cons (BE.bin sem_add (BE.var 5) (BE.int _)) BA.nil))) (BTg.name 7) (BS.one (BO.assign 4 (BE.call H.toOk (C_qmul H) (BA.cons (BE.var 4) (BA.cons (BE.call H.toOk (C_moved H) (BA.cons (BE.var 6) (BA.cons (BE.un sem_neg (BE.var 7)) BA.nil))) BA.nil)))))))) BS.nil)))))
    (BS.one (BO.ret (BE.tup (BA.cons (BE.var 2) (BA.cons (BE.var 3) (BA.cons (BE.var 4) BA.nil))))))))⟩
theorem at_parted {W : Gl} (H : Has W) : FnAt W "parted" ["top", "bottom"] (fB (stAt 123)) (fS (stAt 123)) :=
  fnAt_i H 97 123 (by decide +kernel) (by kernel_rfl) (by kernel_rfl) (by kernel_rfl) (by kernel_rfl) (fun _ _ _ => b2 fun _ _ => by kernel_rfl)
noncomputable def F_parted : List D → Option D := runF p_parted.1 2 6
theorem C_parted {W : Gl} (H : Has W) : Contract W "parted" 30 F_parted := Contract.of H.toFine 6 (at_parted H) (FnS.of (by decide +kernel)) (p_parted.2 W H).h

/- gosper -/
noncomputable abbrev L_gosper : Lay := [("ratio", .loc), ("a", .loc), ("b", .loc), ("c", .loc), ("back", .loc), ("x", .loc)]
noncomputable abbrev G_gosper : List Str := ["fmake", "key_solution", "moved", "parted", "qmul"]
noncomputable def p_gosper : { g : List S → Option Fl // ∀ W : Gl, Has W → Bx (DenS W 31 L_gosper G_gosper (fB (stAt 129)) g) } := ⟨_, fun W H => 
    (BS.cons (BO.tupV (k := 6) (Names.cons 1 rfl (by decide) (by decide) (Names.cons 2 rfl (by decide) (by decide) (Names.cons 3 rfl (by decide) (by decide) Names.nil))) (BE.call H.toOk (C_parted H) (BA.cons (BE.idx (BE.var 0) (BE.int _)) (BA.cons (BE.idx (BE.var 0) (BE.int _)) BA.nil))))
    (BS.cons (BO.assign 4 (BE.call H.toOk (C_moved H) (BA.cons (BE.var 2) (BA.cons (BE.un sem_neg (BE.int _)) BA.nil))))
    (BS.cons (BO.assign 5 (BE.call H.toOk (C_key_solution H) (BA.cons (BE.var 1) (BA.cons (BE.var 4) (BA.cons (BE.var 3) BA.nil)))))
    (BS.one (BO.ret (BE.ite (BT.cmp sem_isN (BE.var 5) BE.none) BE.none (BE.call H.toOk (C_fmake H) (BA.cons (BE.call H.toOk (C_qmul H) (BA.cons (BE.var 4) (BA.cons (BE.var 5) BA.nil))) (BA.cons (BE.var 3) BA.nil)))))))))⟩
theorem at_gosper {W : Gl} (H : Has W) : FnAt W "gosper" ["ratio"] (fB (stAt 129)) (fS (stAt 129)) :=
  fnAt_i H 103 129 (by decide +kernel) (by kernel_rfl) (by kernel_rfl) (by kernel_rfl) (by kernel_rfl) (fun _ _ _ => b1 fun _ => by kernel_rfl)
noncomputable def F_gosper : List D → Option D := runF p_gosper.1 1 5
theorem C_gosper {W : Gl} (H : Has W) : Contract W "gosper" 32 F_gosper := Contract.of H.toFine 5 (at_gosper H) (FnS.of (by decide +kernel)) (p_gosper.2 W H).h

/- _law_parts_right -/
noncomputable abbrev L_law_parts_right : Lay := [("top", .loc), ("bottom", .loc), ("d", .loc), ("a", .loc), ("b", .loc), ("c", .loc)]
noncomputable abbrev G_law_parts_right : List Str := ["len", "moved", "parted", "qmul"]
noncomputable def p_law_parts_right : { g : List S → Option Fl // ∀ W : Gl, Has W → Bx (DenS W 31 L_law_parts_right G_law_parts_right (fB (stAt 133)) g) } := ⟨_, fun W H => 
    (BS.cons (BO.tupV (k := 6) (Names.cons 3 rfl (by decide) (by decide) (Names.cons 4 rfl (by decide) (by decide) (Names.cons 5 rfl (by decide) (by decide) Names.nil))) (BE.call H.toOk (C_parted H) (BA.cons (BE.var 0) (BA.cons (BE.var 1) BA.nil))))
    (BS.one (BO.ret (BE.and (BE.cmp sem_eq (BE.len H.toFine (BA.cons (BE.var 5) BA.nil)) (BE.var 2)) (BE.cmp sem_eq (BE.call H.toOk (C_qmul H) (BA.cons (BE.call H.toOk (C_qmul H) (BA.cons (BE.var 3) (BA.cons (BE.call H.toOk (C_moved H) (BA.cons (BE.var 5) (BA.cons (BE.int _) BA.nil))) BA.nil))) (BA.cons (BE.var 1) BA.nil))) (BE.call H.toOk (C_qmul H) (BA.cons (BE.call H.toOk (C_qmul H) (BA.cons (BE.var 4) (BA.cons (BE.var 5) BA.nil))) (BA.cons (BE.var 0) BA.nil))))))))⟩
theorem at_law_parts_right {W : Gl} (H : Has W) : FnAt W "_law_parts_right" ["top", "bottom", "d"] (fB (stAt 133)) (fS (stAt 133)) :=
  fnAt_i H 106 133 (by decide +kernel) (by kernel_rfl) (by kernel_rfl) (by kernel_rfl) (by kernel_rfl) (fun _ _ _ => b3 fun _ _ _ => by kernel_rfl)
noncomputable def F_law_parts_right : List D → Option D := runF p_law_parts_right.1 3 3
theorem C_law_parts_right {W : Gl} (H : Has W) : Contract W "_law_parts_right" 32 F_law_parts_right := Contract.of H.toFine 3 (at_law_parts_right H) (FnS.of (by decide +kernel)) (p_law_parts_right.2 W H).h

/- the tail of the law: from the try on -/
noncomputable abbrev L_law : Lay := [("script", .loc), ("box", .loc), ("s", .loc), ("d", .loc), ("top", .loc), ("bottom", .loc), ("found", .loc), ("n", .loc), ("here", .loc), ("later", .loc), ("above", .loc), ("below", .loc), ("wrong", .loc)]
noncomputable abbrev G_law : List Str := ["_law_parts_right", "fat", "gosper", "list", "_law_take", "_law_pair", "CasFail"]
noncomputable def p_law : { g : List S → Option Fl // ∀ W : Gl, Has W → Bx (DenS W 33 L_law G_law ((fB (stAt 134)).drop 3) g) } := ⟨_, fun W H => 
    (BS.cons (BO.tryN (BS.one (BO.assign 6 (BE.call H.toOk (C_gosper H) (BA.cons (BE.tup (BA.cons (BE.var 4) (BA.cons (BE.var 5) BA.nil))) BA.nil)))))
    (BS.cons (BO.if (BT.or3 (BT.cmp sem_gt (BE.var 3) (BE.int _)) (BT.cmp sem_isN (BE.var 6) BE.none) (BT.not (BT.val (BE.call H.toOk (C_law_parts_right H) (BA.cons (BE.var 4) (BA.cons (BE.var 5) (BA.cons (BE.var 3) BA.nil))))))) (BS.one (BO.ret (BE.bool _))) BS.nil)
    (BS.cons (BO.for (k := 12) (BI.seq (BE.tup (BA.cons (BE.int _) (BA.cons (BE.int _) (BA.cons (BE.int _) BA.nil))))) (BTg.name 7) (BS.cons (BO.tupS (k := 12) (names := ["here", "later"]) (Names.cons 8 rfl (by decide) (by decide) (Names.cons 9 rfl (by decide) (by decide) Names.nil)) (BIts.consE (BE.call H.toOk (C_fat H) (BA.cons (BE.var 6) (BA.cons (BE.tup (BA.cons (BE.var 7) (BA.cons (BE.int _) BA.nil))) BA.nil))) (BIts.consE (BE.call H.toOk (C_fat H) (BA.cons (BE.var 6) (BA.cons (BE.tup (BA.cons (BE.bin sem_add (BE.var 7) (BE.int _)) (BA.cons (BE.int _) BA.nil))) BA.nil))) BIts.nil)))
    (BS.cons (BO.tupS (k := 12) (names := ["above", "below"]) (Names.cons 10 rfl (by decide) (by decide) (Names.cons 11 rfl (by decide) (by decide) Names.nil)) (BIts.consE (BE.bin sem_mul (BE.bin sem_add (BE.var 7) (BE.var 2)) (BE.bin sem_add (BE.bin sem_add (BE.var 7) (BE.var 2)) (BE.var 3))) (BIts.consE (BE.bin sem_mul (BE.bin sem_add (BE.bin sem_add (BE.var 7) (BE.var 2)) (BE.int _)) (BE.bin sem_add (BE.bin sem_add (BE.bin sem_add (BE.var 7) (BE.var 2)) (BE.var 3)) (BE.int _))) BIts.nil)))
    (BS.one (BO.if (BT.cmp sem_ne (BE.bin sem_sub (BE.bin sem_mul (BE.bin sem_mul (BE.idx (BE.var 9) (BE.int _)) (BE.var 10)) (BE.idx (BE.var 8) (BE.int _))) (BE.bin sem_mul (BE.bin sem_mul (BE.idx (BE.var 8) (BE.int _)) (BE.idx (BE.var 9) (BE.int _))) (BE.var 11))) (BE.bin sem_mul (BE.bin sem_mul (BE.idx (BE.var 9) (BE.int _)) (BE.idx (BE.var 8) (BE.int _))) (BE.var 11))) (BS.one (BO.ret (BE.bool _))) BS.nil)))))
    (BS.one (BO.ret (BE.bool _))))))⟩

end Gos
end

section
open PySem PySem.W PyProof.Rows
set_option maxHeartbeats 2000000
namespace Gos
open PySem

/- _law_take -/
noncomputable abbrev L_law_take : Lay := [("box", .loc), ("many", .loc)]
noncomputable abbrev G_law_take : List Str := ["abs", "len"]
theorem at_law_take {W : Gl} (H : Has W) : FnAt W "_law_take" ["box", "many"] (fB (stAt 131)) (fS (stAt 131)) :=
  fnAt_i H 104 131 (by decide +kernel) (by kernel_rfl) (by kernel_rfl) (by kernel_rfl) (by kernel_rfl) (fun _ _ _ => b2 fun _ _ => by kernel_rfl)
noncomputable def p_law_take : { q : (List S → Option (List S)) × (List S → Option Bool) × (List S → Option D) × (List S → Option D) // ∀ W : Gl, Has W → ContractIR W "_law_take" 4 (runIR q.1 (fun ρ => ite1 (q.2.1 ρ) (q.2.2.1 ρ) (q.2.2.2 ρ)) 1 0) } :=
  ⟨(_, _, _, _), fun W H => ContractIR.of (Γ := L_law_take) (G := G_law_take) (n := 3) H.toFine 0 (at_law_take H) (FnS.of (by decide +kernel)) (by decide)
    (DenK.setItem 0 (DenE.bin sem_add (DenE.oidx 0 (DenE.int _)) (DenE.int _)) (DenE.int _))
    (DenT.cmp sem_le (DenE.oidx 0 (DenE.int _)) (DenE.len H.toFine (DenA.cons (DenE.oidx 0 (DenE.int _)) DenA.nil)))
    (DenE.bin sem_mod (DenE.callB H.toFine "abs" sem_abs (.inl ⟨_, rfl⟩) (by decide +kernel) (by decide +kernel) boot_abs (DenA.cons (DenE.idx (DenE.oidx 0 (DenE.int _)) (DenE.bin sem_sub (DenE.oidx 0 (DenE.int _)) (DenE.int _))) DenA.nil) (by decide +kernel) (by decide) rfl) (DenE.var 1))
    (DenE.bin sem_mod (DenE.bin sem_add (DenE.bin sem_mul (DenE.int _) (DenE.oidx 0 (DenE.int _))) (DenE.bin sem_fdiv (DenE.oidx 0 (DenE.int _)) (DenE.int _))) (DenE.var 1))⟩
noncomputable def F_law_take (xs ds : List D) : Option (D × List D) := runIR p_law_take.1.1 (fun ρ => ite1 (p_law_take.1.2.1 ρ) (p_law_take.1.2.2.1 ρ) (p_law_take.1.2.2.2 ρ)) 1 0 xs ds
theorem C_law_take {W : Gl} (H : Has W) : ContractIR W "_law_take" 4 F_law_take := p_law_take.2 W H

/- the law's first three statements -/
noncomputable def lawSt (i : Nat) : Stmt := ((fB (stAt 134))[i]?).getD (.Pass default)
noncomputable def p_l1 : { g : List S → Option Fl // ∀ W : Gl, Has W → DenO W 33 L_law G_law (lawSt 0) g } := ⟨_, fun W H =>
    DenO.assignF 1 (DenF.list (DenA.cons (DenE.fresh (DenF.callB H.toFine "list" sem_list (.inr ⟨_, rfl⟩) (by decide +kernel) (by decide +kernel) boot_list (DenA.cons (DenE.fresh (DenF.sliceU (DenE.var 0) (DenE.int _))) DenA.nil) (by decide +kernel) (by decide) rfl)) (DenA.cons (DenE.int _) DenA.nil)))⟩
noncomputable def p_l2 : { g : List S → Option Fl // ∀ W : Gl, Has W → DenO W 33 L_law G_law (lawSt 1) g } := ⟨_, fun W H =>
    DenO.law2 (k := 12) (names := ["s", "d"]) H.toOk 1 (C_law_take H) (DenA.cons (DenE.int _) DenA.nil)
        (DenF.list (DenA.cons (DenE.bin sem_add (DenE.bin sem_pow (DenE.int _) (DenE.int _)) (DenE.int _)) (DenA.cons (DenE.int _) (DenA.cons (DenE.int _) (DenA.cons (DenE.int _) (DenA.cons (DenE.int _) (DenA.cons (DenE.int _) DenA.nil)))))))
        (DenA.cons (DenE.int _) DenA.nil) (Names.cons 2 rfl (by decide) (by decide) (Names.cons 3 rfl (by decide) (by decide) Names.nil)) (by decide +kernel) rfl (by decide) (by decide +kernel) (by decide)⟩
noncomputable def p_l3 : { g : List S → Option Fl // ∀ W : Gl, Has W → DenO W 33 L_law G_law (lawSt 2) g } := ⟨_, fun W H =>
    DenO.tupS (k := 12) (names := ["top", "bottom"]) (Names.cons 4 rfl (by decide) (by decide) (Names.cons 5 rfl (by decide) (by decide) Names.nil)) (DenIts.consE (DenE.call H.toOk (C_law_pair H) (DenA.cons (DenE.var 2) (DenA.cons (DenE.bin sem_add (DenE.var 2) (DenE.var 3)) DenA.nil)))
        (DenIts.consE (DenE.call H.toOk (C_law_pair H) (DenA.cons (DenE.bin sem_add (DenE.var 2) (DenE.int _)) (DenA.cons (DenE.bin sem_add (DenE.bin sem_add (DenE.var 2) (DenE.var 3)) (DenE.int _)) DenA.nil))) DenIts.nil))⟩
theorem law_body : fB (stAt 134) = lawSt 0 :: lawSt 1 :: lawSt 2 :: (fB (stAt 134)).drop 3 := by kernel_rfl
end Gos
end

section
open PySem PySem.W PyProof.Rows
namespace Gos
open PySem
open Builtin Builtin.ObjectAttr

noncomputable abbrev bmE : List Value := [.type "Exception", .type "BaseException", .type "object"]

section
variable {prog : Program} {w : World} {A : Around} {E : Value → Shared → Prop} {h : Heap} {g : Array GenState} {d : Drawn} {t : Nat} {os : OsState}
variable {nm q : Str} {C N x : Addr} {bs : List Value} {sn : List Str} {sub : List Value} {ab : Bool} {col : Option Bool} {dd : Option Addr} {k0 k1 k2 k3 k5 : Option Value} {newId : String}
  {mN : Str → Option Value} {name : Str} {v : Value}

/-- the first attribute of an object without a dict: the new dict is told -/
theorem store1 {o : Obj} {sa owner : String} {Q : Unit → Shared → Prop} (SF : StoreFacts "Exception" bmE sa owner)
    (hC : h.get? C = some (excClassObj nm q C N bs bmE true sn sub ab col dd k0 k1 k2 k3 k5 newId)) (hn : h.Ns N mN) (hns : mN "__setattr__" = none) (hna : mN name = none)
    (hB : typeLookup (.type "Exception") name = pure none) (hx : h.get? x = some o) (hc : o.cls = .ref C) (hnc : ∃ vs, o.data = .fields vs) (hdn : o.dict = none)
    (hq : ∀ h' tk', h'.get? x = some { o with dict := some h.objs.size } → h'.Ns1 h.objs.size (fun y => if y = name then some v else none) → (∀ b ob, b ≠ x → h.get? b = some ob → h'.get? b = some ob) → Q () ⟨h', g, d, tk', os⟩) :
    wpAny (model prog w) A (setAttr (.ref x) name v) Q E ⟨h, g, d, t, os⟩ := by
  have f3 := SF.slot.bind (.ref x)
  unfold setAttr callSpecial? specialOf
  repeat (any_goals (first | assumption | (with_reducible refine wpAny_loadPart_at hx ?_; rw [hc]) | (with_reducible refine wpAny_typeLookup_exc hC hn SF.mro SF.slot.lookup ?_; rw [hns]) | wp_step))
  refine codeAny_call_builtin SF.slot.plain SF.entry (wpAny_check_sa SF hC hx hc ?_)
  have hpass := SF.passes (.ref x)
  unfold Builtin.«object.__setattr__»
  repeat (first | rw [refuse_eq] | (rw [refuseLoop_ref, hpass]) | (with_reducible refine wpAny_loadPart_at hx ?_; rw [hc]) | with_reducible refine wpAny_mroOf_exc hC ?_ | (with_reducible refine wpAny_typeLookup_exc hC hn SF.mro hB ?_; rw [hna]) | wp_step)
  rw [hdn, if_neg (by simp [typeHasDict])]
  obtain ⟨vs, hvs⟩ := hnc
  split
  · rename_i hcd; cases hcd
  split
  · rename_i c hcd; rw [hvs] at hcd; cases hcd
  · have hx₁ : (h.push { cls := .type "dict", data := .dict #[] }).get? x = some o := Heap.get?_push_of_some _ hx
    have hxs : x ≠ h.objs.size := Nat.ne_of_lt (Heap.lt_size hx)
    refine wpAny_bind (wpAny_alloc' (wpAny_bind (wpAny_update' hx₁ (wpAny_pure ?_))))
    have hgd : ((h.push { cls := .type "dict", data := .dict #[] }).update x fun o => { cls := o.cls, dict := some h.objs.size, data := o.data, slots := o.slots }).get? h.objs.size
          = some { cls := .type "dict", data := .dict #[] } :=
        (Heap.get?_update_ne _ _ _ _ hxs.symm).trans (Heap.get?_push_at rfl rfl)
    have hnd : ((h.push { cls := .type "dict", data := .dict #[] }).update x fun o => { cls := o.cls, dict := some h.objs.size, data := o.data, slots := o.slots }).Ns h.objs.size (fun _ => none) :=
        ⟨_, #[], _, hgd, rfl, fun e he => absurd he (by simp), fun _ => rfl⟩
    show wpAny _ _ (storeInDict h.objs.size (.str name _) name v) _ _ _
    unfold storeInDict newKeyGuard
    refine wpAny_bind (wpAny_pure (wpAny_bind (wpAny_nsSet1 (Heap.Ns1.of_empty hnd) fun h' hn' hs => ?_)))
    obtain ⟨oD, esD, epD, hoD, hdD, hcD⟩ := hn'.count (Within.cons name v Within.nil)
    refine wpAny_bind (wpAny_lookBehind hoD (by rw [hdD]; exact pastItsLine_dict (Nat.le_trans hcD (by rw [List.length_cons, List.length_nil, sizeLine_eq]; omega))) ?_)
    wp_walk
    have hx' : h'.get? x = some { o with dict := some h.objs.size } := by
      refine (hs.2 x hxs).trans (Heap.get?_update_self _ hx₁ ?_)
      have hfr := (Heap.get?_some_iff.mp hx).2
      obtain ⟨oc, od, odt, osl⟩ := o
      cases odt <;> first | rfl | exact hfr
    repeat (any_goals (first | assumption | wp_step))
    refine hq h' _ hx' hn' fun b ob hbx hb => ?_
    exact (hs.2 b (Nat.ne_of_lt (Heap.lt_size hb))).trans ((Heap.get?_update_ne _ _ _ _ hbx).trans (Heap.get?_push_of_some _ hb))
end
end Gos
end

section
open PySem PySem.W PyProof.Rows
namespace Gos
open PySem

/-- the class CasFail as it stands -/
structure Cas (W : Gl) (C N fI : Addr) : Prop where
  mg : W.mg "CasFail" = some (.ref C)
  cls : ∃ nm q bs sn sub ab col dd k0 k1 k2 k3 k5, W.h₀.get? C = some (excClassObj nm q C N bs bmE true sn sub ab col dd k0 k1 k2 k3 k5 "Exception.__new__")
  ns : ∃ mN, W.h₀.Ns N mN ∧ mN "__init__" = some (.ref fI) ∧ mN "__setattr__" = none ∧ mN "kind" = none ∧ mN "text" = none ∧ mN "__getattribute__" = none ∧ mN "__getattr__" = none

/-- an exception of the class, with its words -/
noncomputable def IsCas (h : Heap) (e C dx : Addr) (xk : Str) : Prop := ∃ t tk mA, h.get? e = some { cls := .ref C, dict := some dx, data := .fields #[.ref t, .none, .none, .none, .bool false, .none] } ∧ dx ≠ e ∧ h.Ns1 dx mA ∧ mA "kind" = some (.str xk tk)

theorem lk_kind : typeLookup (.type "Exception") "kind" = pure none := by rw [typeLookup_type, builtinLookup_eq_fast]; kernel_rfl
theorem lk_text : typeLookup (.type "Exception") "text" = pure none := by rw [typeLookup_type, builtinLookup_eq_fast]; kernel_rfl
theorem ty_exc : typeOf (.type "Exception") = pure (.type "type") := by first | rfl | kernel_rfl
theorem stub_exc : Manifest.isStub "Exception" = false := by decide +kernel
theorem fc_exc : findCls [] (.type "Exception") (.type "type") "__init__" = some (.val (.builtin "Exception.__init__")) := by first | rfl | decide +kernel | kernel_rfl

section
variable {prog : Program} {w : World} {A : Around} {E : Value → Shared → Prop} {s : Shared}
theorem get_exc_init {pl : Sem Bool} {Q : Value × List Value → Shared → Prop} (h : Q (.builtin "Exception.__init__", []) { s with toks := s.toks + 1 }) :
    wpAny (model prog w) A (getMethod (.type "Exception") "__init__" pl) Q E s := by
  have X : Frag.In [] s.heap := fun a o e => by cases e
  have hstub : opaqueClassAbove (.type "Exception") = pure none := by unfold opaqueClassAbove; dsimp only; rw [stub_exc]; rfl
  have L0 : Looks (model prog w) s.heap (typeOf (.type "Exception")) (.type "type") := Looks.of_pure ty_exc
  have hg : findIn [] (.type "type") "__getattribute__" = some (some (.builtin "type.__getattribute__")) := type_tga
  unfold getMethod specialOf
  refine wpAny_bind (wpAny_bind (L0.here ((looks_findIn X hg).here ?_)))
  dsimp only
  rw [if_pos canon_tga]
  refine wpAny_bind (wpAny_mono (Q := fun v => Q (v, [])) (E := E) ?_ (fun _ _ z => wpAny_pure z) fun _ _ z => z)
  have LO : Looks (model prog w) s.heap (opaqueClassAbove (.type "Exception")) none := Looks.of_pure hstub
  refine cls_open X LO L0 hg (looks_hook X (r := none) (by rfl)) (by show subIn [] _ _ = _; rfl) fc_exc
    (wpAny_pure (by show wpAny _ _ (handedOut _) _ _ _; rw [handedOut_of (by rfl)]; exact wpAny_pure h))
end

section
variable {W : Gl} {A : Around} {E : Value → Shared → Prop} {h : Heap} {g : Array GenState} {d : Drawn} {t : Nat} {os : OsState}
variable {nm q : Str} {C N x : Addr} {bs bm : List Value} {hdct : Bool} {sn : List Str} {sub : List Value} {ab : Bool} {col : Option Bool} {dd : Option Addr} {k0 k1 k2 k3 k5 : Option Value} {newId initId : String} {e : Addr}
theorem call_exc_init (FE : ExcBaseFacts "Exception" newId initId bm) {t0 : Addr} {rest : List Value} {Q : Value → Shared → Prop}
    (hC : h.get? C = some (excClassObj nm q C N bs bm hdct sn sub ab col dd k0 k1 k2 k3 k5 newId)) (he : h.get? e = some { cls := .ref C, data := .fields #[.ref t0, .none, .none, .none, .bool false, .none] }) (hrest : rest.length ≤ sizeLine)
    (hq : ∀ h', h'.get? e = some { cls := .ref C, data := .fields #[.ref h.objs.size, .none, .none, .none, .bool false, .none] } → (∀ b o, b ≠ e → h.get? b = some o → h'.get? b = some o) → Q .none ⟨h', g, d, t, os⟩) :
    wpAny (model W.prog W.w) A (call (.builtin initId) (.ref e :: rest)) Q E ⟨h, g, d, t, os⟩ := by
  refine wpAny_call (codeAny_call_builtin FE.init.plain FE.initEntry (wpAny_check_init_sub FE hC he rfl ?_))
  wp_walk
  refine hq _ ?_ fun b o hb ho => ?_
  · rw [Heap.get?_update_self _ (Heap.get?_push_of_some _ he) rfl]
    rfl
  · rw [Heap.get?_update_other _ _ (Ne.symm hb)]
    exact Heap.get?_push_of_some _ ho
end
end Gos
end

section
open PySem PySem.W PyProof.Rows
namespace Gos
open PySem

section
variable {W : Gl} {A : Around} {E : Value → Shared → Prop} {s : Shared} {env : Env}

/-- names of a frame -/
structure Nm (W : Gl) (env : Env) (h : Heap) (m : Str → Option Value) : Prop where
  k : env.scope.kind = .function
  g : env.globals = mainGlobals
  b : env.builtins = builtinsNs
  ns : h.Ns env.locals m
theorem nm_loc {m : Str → Option Value} {x : Str} {p : Pos} {v : Value} {Q : Value → Shared → Prop} (H : Nm W env s.heap m) (hx : env.kindOf x = some .local) (e : m x = some v) (q : Q v s) (hd : (x == ("__debug__" : Str)) = false := by decide) :
    wpAny (model W.prog W.w) A (eval (.Name x p) env) Q E s := wpAny_Name (wpAny_loadName_local H.k hx H.ns e q) hd

noncomputable def aSt1 (p1 p2 p3 p4 p5 q1 q2 q3 q4 q5 : Pos) (c : Nat) : Stmt := .Expr (.Call (.Attribute (.Name "Exception" p1) "__init__" p2) [.Name "self" p3, .BinOp (.BinOp (.Name "kind" q1) .Add (.Constant (.str ": ") c q2) q3) .Add (.Name "text" q4) q5] [] p4) p5
noncomputable def aSt2 (p1 p2 p3 p4 : Pos) : Stmt := .Assign [.Attribute (.Name "self" p1) "kind" p2] (.Name "kind" p3) p4
noncomputable def aSt3 (p1 p2 p3 p4 : Pos) : Stmt := .Assign [.Attribute (.Name "self" p1) "text" p2] (.Name "text" p3) p4

noncomputable abbrev aArgs (p3 q1 q2 q3 q4 q5 : Pos) (c : Nat) : List Expr := [.Name "self" p3, .BinOp (.BinOp (.Name "kind" q1) .Add (.Constant (.str ": ") c q2) q3) .Add (.Name "text" q4) q5]
noncomputable abbrev aCall (p1 p2 p3 p4 q1 q2 q3 q4 q5 : Pos) (c : Nat) : Expr := .Call (.Attribute (.Name "Exception" p1) "__init__" p2) (aArgs p3 q1 q2 q3 q4 q5 c) [] p4
theorem init1 {C N fI e t0 : Addr} (H : Cas W C N fI) (B : W.Fine) {m : Str → Option Value} (M : Nm W env s.heap m) (base : Keep W.h₀ s.heap) (hex : W.mg "Exception" = none) {xk xt : Str} {tk tt : Tok}
    (ks : env.kindOf "self" = some .local) (kk : env.kindOf "kind" = some .local) (kt : env.kindOf "text" = some .local) (ke : env.kindOf "Exception" = some .globalImplicit)
    (ms : m "self" = some (.ref e)) (mk : m "kind" = some (.str xk tk)) (mt : m "text" = some (.str xt tt)) (lk : xk.length ≤ 100) (lt : xt.length ≤ 1000)
    (he : s.heap.get? e = some { cls := .ref C, data := .fields #[.ref t0, .none, .none, .none, .bool false, .none] })
    {p1 p2 p3 p4 p5 q1 q2 q3 q4 q5 : Pos} {c : Nat} {pl : Sem Bool} {Q : Flow → Shared → Prop} (hi : interactive env = false) (hsw : swapsWith (aCall p1 p2 p3 p4 q1 q2 q3 q4 q5 c) none p5.line env = pure false)
    (hev : eval (aCall p1 p2 p3 p4 q1 q2 q3 q4 q5 c) env = (do
      let ov ← eval (.Name "Exception" p1) env
      standAt p2.atName
      let (f, first) ← holding [ov] (getMethod ov "__init__" pl)
      callWith p4 f first (backTo p4 (starEach (aArgs p3 q1 q2 q3 q4 q5 c) env)) (backToKw p4 (keywordEach [] env))))
    (q : ∀ h' tk t1, h'.get? e = some { cls := .ref C, data := .fields #[.ref t1, .none, .none, .none, .bool false, .none] } → (∀ b o, b ≠ e → s.heap.get? b = some o → h'.get? b = some o) → Q .next { s with heap := h', toks := tk }) :
    wpAny (model W.prog W.w) A (exec (.Expr (aCall p1 p2 p3 p4 q1 q2 q3 q4 q5 c) p5) env) Q E s := by
  obtain ⟨nm, qq, bs, sn, sub, ab, col, dd, k0, k1, k2, k3, k5, hC⟩ := H.cls
  refine wpAny_Expr ?_ hi hsw
  refine methodCall_KW (kws := []) (pl := pl) ?_ hev
  refine Calls.Name_function_global M.k ke (Calls.loadGlobal_builtin (by rw [M.g]; exact B.g.keeps base) hex (by rw [M.b]; exact B.b.keeps base) ((B.bl _ (by decide)).trans (by rfl)) ?_)
  refine get_exc_init ?_
  refine callBlt (.inl ⟨_, rfl⟩) (by rfl) ?_
  show wpAny _ _ (spliced [(false, _), (false, _)]) _ _ _
  refine Calls.spliced_cons (nm_loc (s := { s with toks := s.toks + 1 }) M ks ms ?_)
  refine Calls.spliced_cons (wpAny_BinOp (wpAny_BinOp (nm_loc (s := { s with toks := s.toks + 1 }) M kk mk (Calls.Constant_str (PyProof.Rows.add_str (fun t1 tk1 => ?_) ?_)))))
  · refine nm_loc (s := { s with toks := tk1 }) M kt mt (PyProof.Rows.add_str (fun t2 tk2 => ?_) ?_)
    · refine Calls.spliced_nil ?_
      refine call_exc_init (W := W) PySem.F.excBase_Exception (base _ _ hC) he (by show 1 ≤ sizeLine; rw [sizeLine_eq]; omega) fun h' g k => ?_
      exact q h' _ _ g k
    · rw [Str.length_append, sizeLine_eq]
      have : (Str.ofString ": ").length = 2 := by rfl
      omega
  · have : (Str.ofString ": ").length = 2 := by rfl
    rw [sizeLine_eq]; omega
end
end Gos
end

section
open PySem PySem.W PyProof.Rows
namespace Gos
open PySem

section
variable {W : Gl} {A : Around} {E : Value → Shared → Prop} {s : Shared} {env : Env}
theorem Nm.keep {m : Str → Option Value} {h h' : Heap} (H : Nm W env h m) (e : ∀ o, h.get? env.locals = some o → h'.get? env.locals = some o) : Nm W env h' m := by
  obtain ⟨k, g, b, o, es, ep, h1, r⟩ := H
  exact ⟨k, g, b, o, es, ep, e o h1, r⟩
theorem Nm.at {m : Str → Option Value} {h : Heap} (H : Nm W env h m) : h.get? env.locals ≠ none := by
  obtain ⟨k, g, b, o, es, ep, h1, r⟩ := H
  rw [h1]; simp

theorem init2 {C N fI e t0 : Addr} (H : Cas W C N fI) {m : Str → Option Value} (M : Nm W env s.heap m) (base : Keep W.h₀ s.heap)
    (ks : env.kindOf "self" = some .local) (kk : env.kindOf "kind" = some .local) (ms : m "self" = some (.ref e)) {v : Value} (mk : m "kind" = some v)
    (he : s.heap.get? e = some { cls := .ref C, data := .fields #[.ref t0, .none, .none, .none, .bool false, .none] })
    {p1 p2 p3 p4 : Pos} {Q : Flow → Shared → Prop} (hsw : swapsWith (.Name "kind" p3) (some (.Attribute (.Name "self" p1) "kind" p2)) p4.line env = pure false)
    (q : ∀ h' tk, h'.get? e = some { cls := .ref C, dict := some s.heap.objs.size, data := .fields #[.ref t0, .none, .none, .none, .bool false, .none] } → h'.Ns1 s.heap.objs.size (fun y => if y = ("kind" : Str) then some v else none) →
      (∀ b o, b ≠ e → s.heap.get? b = some o → h'.get? b = some o) → Q .next { s with heap := h', toks := tk }) :
    wpAny (model W.prog W.w) A (exec (aSt2 p1 p2 p3 p4) env) Q E s := by
  obtain ⟨nm, qq, bs, sn, sub, ab, col, dd, k0, k1, k2, k3, k5, hC⟩ := H.cls
  obtain ⟨mN, n0, n1, n2, n3, n4, n5, n6⟩ := H.ns
  refine plainObj_wpAny_Assign_Attribute ?_ hsw
  refine nm_loc M kk mk (nm_loc M ks ms ?_)
  exact store1 PySem.F.store_Exception (base _ _ hC) (n0.keeps base) n2 n3 lk_kind he rfl ⟨_, rfl⟩ rfl fun h' tk g1 g2 g3 => q h' tk g1 g2 g3

theorem init3 {C N fI e t0 dx : Addr} (H : Cas W C N fI) {m : Str → Option Value} (M : Nm W env s.heap m) (base : Keep W.h₀ s.heap)
    (ks : env.kindOf "self" = some .local) (kt : env.kindOf "text" = some .local) (ms : m "self" = some (.ref e)) {v u : Value} (mt : m "text" = some v) (hne : dx ≠ e) (heC : e ≠ C)
    (he : s.heap.get? e = some { cls := .ref C, dict := some dx, data := .fields #[.ref t0, .none, .none, .none, .bool false, .none] }) (hd : s.heap.Ns1 dx (fun y => if y = ("kind" : Str) then some u else none))
    {p1 p2 p3 p4 : Pos} {Q : Flow → Shared → Prop} (hsw : swapsWith (.Name "text" p3) (some (.Attribute (.Name "self" p1) "text" p2)) p4.line env = pure false)
    (q : ∀ h' tk mA, h'.get? e = some { cls := .ref C, dict := some dx, data := .fields #[.ref t0, .none, .none, .none, .bool false, .none] } → h'.Ns1 dx mA → mA "kind" = some u →
      (∀ b o, b ≠ e → b ≠ dx → s.heap.get? b = some o → h'.get? b = some o) → Q .next { s with heap := h', toks := tk }) :
    wpAny (model W.prog W.w) A (exec (aSt3 p1 p2 p3 p4) env) Q E s := by
  obtain ⟨nm, qq, bs, sn, sub, ab, col, dd, k0, k1, k2, k3, k5, hC⟩ := H.cls
  obtain ⟨mN, n0, n1, n2, n3, n4, n5, n6⟩ := H.ns
  refine plainObj_wpAny_Assign_Attribute ?_ hsw
  refine nm_loc M kt mt (nm_loc M ks ms ?_)
  refine store_attr PySem.F.store_Exception (base _ _ hC) (n0.keeps base) n2 n4 lk_text heC ⟨_, he, rfl, fun c => by simp, .inr ⟨dx, rfl, hne, hd⟩⟩ (fun h' tk I g1 g2 => ?_) (Within.cons "kind" u Within.nil) (by rw [sizeLine_eq]; decide)
  obtain ⟨o, ho, hc, hnc, hdd⟩ := I
  obtain ⟨o₁, h1, h2, h3, h4, h5⟩ := g2 _ he
  rw [ho] at h1; cases h1
  have e5 := h5 dx rfl
  have ho' : h'.get? e = some { cls := .ref C, dict := some dx, data := .fields #[.ref t0, .none, .none, .none, .bool false, .none] } := by
    rw [ho]
    obtain ⟨oc, od, odt, osl⟩ := o
    dsimp only at h2 h3 h4 e5
    subst h2 h3 h4 e5
    rfl
  rcases hdd with ⟨x, _⟩ | ⟨d', x, y, z⟩
  · rw [e5] at x; cases x
  · rw [e5] at x; cases x
    refine q h' tk _ ho' z (by simp [show ("kind" : Str) ≠ ("text" : Str) by decide]) fun b ob b1 b2 b3 => g1 b ob b1 (fun o₀ dx' x1 x2 => ?_) b3
    rw [he] at x1; cases x1; cases x2; exact b2
end

structure InitFn (W : Gl) (fI : Addr) : Prop where
  ex : ∃ o fd p1 p2 p3 p4 p5 q1 q2 q3 q4 q5 c r1 r2 r3 r4 u1 u2 u3 u4, W.h₀.get? fI = some o ∧ o.cls = .type "function" ∧ o.data = .func fd ∧ fd.body = .stmts [.Expr (aCall p1 p2 p3 p4 q1 q2 q3 q4 q5 c) p5, aSt2 r1 r2 r3 r4, aSt3 u1 u2 u3 u4] ∧
    fd.globals = mainGlobals ∧ fd.builtins = builtinsNs ∧ fd.closure = [] ∧ W.h₀.CodeRec fd.code fd.qualname ∧ (∀ a b c, bindArgs fd ⟨[a, b, c], []⟩ = pure [(("self" : Str), a), (("kind" : Str), b), (("text" : Str), c)]) ∧
    fd.scope.isCoroutine = false ∧ fd.scope.isGenerator = false ∧ fd.scope.kind = .function ∧ fd.scope.names.lookup ("self" : Str) = some .local ∧ fd.scope.names.lookup ("kind" : Str) = some .local ∧ fd.scope.names.lookup ("text" : Str) = some .local ∧ fd.scope.names.lookup ("Exception" : Str) = some .globalImplicit ∧
    (∀ env, env.scope = fd.scope → interactive env = false ∧ swapsWith (aCall p1 p2 p3 p4 q1 q2 q3 q4 q5 c) none p5.line env = pure false ∧ swapsWith (.Name "kind" r3) (some (.Attribute (.Name "self" r1) "kind" r2)) r4.line env = pure false ∧ swapsWith (.Name "text" u3) (some (.Attribute (.Name "self" u1) "text" u2)) u4.line env = pure false ∧
      ∃ pl, eval (aCall p1 p2 p3 p4 q1 q2 q3 q4 q5 c) env = (do
      let ov ← eval (.Name "Exception" p1) env
      standAt p2.atName
      let (f, first) ← holding [ov] (getMethod ov "__init__" pl)
      callWith p4 f first (backTo p4 (starEach (aArgs p3 q1 q2 q3 q4 q5 c) env)) (backToKw p4 (keywordEach [] env))))

section
variable {W : Gl} {A : Around} {E : Value → Shared → Prop} {s : Shared}
theorem init_call {C N fI e t0 : Addr} (H : Cas W C N fI) (FI : InitFn W fI) (B : W.Fine) (hex : W.mg "Exception" = none) (base : Keep W.h₀ s.heap) (he0 : W.h₀.get? e = none) (room : A.depth < recursionLimit)
    {xk xt : Str} {tk tt : Tok} (lk : xk.length ≤ 100) (lt : xt.length ≤ 1000)
    (he : s.heap.get? e = some { cls := .ref C, data := .fields #[.ref t0, .none, .none, .none, .bool false, .none] }) {Q : Value → Shared → Prop}
    (q : ∀ h' tk dx, IsCas h' e C dx xk → s.heap.get? dx = none → (∀ b o, b ≠ e → s.heap.get? b = some o → h'.get? b = some o) → Q .none { s with heap := h', toks := tk }) :
    wpAny (model W.prog W.w) A (call (.ref fI) [.ref e, .str xk tk, .str xt tt]) Q E s := by
  obtain ⟨nm, qq, bs, sn, sub, ab, col, dd, k0, k1, k2, k3, k5, hC⟩ := H.cls
  have heC : e ≠ C := fun x => by rw [x, hC] at he0; cases he0
  obtain ⟨o, fd, p1, p2, p3, p4, p5, q1, q2, q3, q4, q5, c, r1, r2, r3, r4, u1, u2, u3, u4, f1, f2, f3, f4, f5, f6, f7, f8, f9, f10, f11, f12, f13, f14, f15, f16, f17⟩ := FI.ex
  refine wpAny_call (codeAny_call_cells room (base _ _ f1) f3 (B.nolimit.keeps base) (f8.keeps base) f4 (f9 _ _ _) f7 (fun x hx => ?_) (fun s₁ X => ?_) f10 f11 f12)
  · simp only [List.mem_cons, List.not_mem_nil, or_false] at hx
    rcases hx with rfl | rfl | rfl
    · exact .inl f13
    · exact .inl f14
    · exact .inl f15
  have hsc : (callEnvC fd s.heap.objs.size fI).scope = fd.scope := rfl
  have hgl : (callEnvC fd s.heap.objs.size fI).globals = mainGlobals := by rw [← f5]; rfl
  have hbl : (callEnvC fd s.heap.objs.size fI).builtins = builtinsNs := by rw [← f6]; rfl
  have hloc : (callEnvC fd s.heap.objs.size fI).locals = s.heap.objs.size := rfl
  obtain ⟨g1, g2, g3, g4, pl, g5⟩ := f17 _ hsc
  generalize callEnvC fd s.heap.objs.size fI = env at *
  have hko : ∀ x, env.kindOf x = fd.scope.names.lookup x := fun x => by rw [← hsc]; rfl
  obtain ⟨h1, tk1, rfl⟩ := X.toInCall.same
  have kk1 : Keep s.heap h1 := X.toInCall.keep
  have hLe : env.locals ≠ e := fun x => by rw [← x, hloc, get_size] at he; cases he
  have M1 : Nm W env h1 (bindL env.kindOf [(("self" : Str), .ref e), (("kind" : Str), .str xk tk), (("text" : Str), .str xt tt)] fun _ => none) := ⟨by rw [hsc]; exact f12, hgl, hbl, X.toInCall.ns⟩
  have ks : env.kindOf "self" = some .local := by rw [hko]; exact f13
  have kd : env.kindOf "kind" = some .local := by rw [hko]; exact f14
  have kt : env.kindOf "text" = some .local := by rw [hko]; exact f15
  have ke : env.kindOf "Exception" = some .globalImplicit := by rw [hko]; exact f16
  have n1 : ("self" : Str) ≠ ("text" : Str) := by decide
  have n2 : ("self" : Str) ≠ ("kind" : Str) := by decide
  have n3 : ("kind" : Str) ≠ ("text" : Str) := by decide
  have b1 : bindL env.kindOf [(("self" : Str), .ref e), (("kind" : Str), .str xk tk), (("text" : Str), .str xt tt)] (fun _ => none) "self" = some (.ref e) := by simp [bindL, ks, kd, kt, n1, n2, n3]
  have b2 : bindL env.kindOf [(("self" : Str), .ref e), (("kind" : Str), .str xk tk), (("text" : Str), .str xt tt)] (fun _ => none) "kind" = some (.str xk tk) := by simp [bindL, ks, kd, kt, n1, n2, n3]
  have b3 : bindL env.kindOf [(("self" : Str), .ref e), (("kind" : Str), .str xk tk), (("text" : Str), .str xt tt)] (fun _ => none) "text" = some (.str xt tt) := by simp [bindL, ks, kd, kt, n1, n2, n3]
  generalize bindL env.kindOf [(("self" : Str), .ref e), (("kind" : Str), .str xk tk), (("text" : Str), .str xt tt)] (fun _ => none) = m at *
  refine wpAny_execs_cons (init1 (s := { s with heap := h1, toks := tk1 }) H B M1 (base.trans kk1) hex ks kd kt ke b1 b2 b3 lk lt (kk1 _ _ he) g1 g2 g5 fun h2 tk2 t2 e2 c2 => ?_)
  have kp2 : Keep W.h₀ h2 := fun b o x => c2 b o (fun y => by rw [y, he0] at x; cases x) (kk1 _ _ (base _ _ x))
  have M2 := M1.keep (h' := h2) fun o x => c2 _ o hLe x
  refine wpAny_execs_cons (init2 (s := { s with heap := h2, toks := tk2 }) H M2 kp2 ks kd b1 b2 e2 g3 fun h3 tk3 e3 d3 c3 => ?_)
  have kp3 : Keep W.h₀ h3 := fun b o x => c3 b o (fun y => by rw [y, he0] at x; cases x) (kp2 _ _ x)
  have M3 := M2.keep (h' := h3) fun o x => c3 _ o hLe x
  have hdx : h2.objs.size ≠ e := fun x => by
    have : h2.get? e = none := by rw [← x]; exact get_size _
    rw [e2] at this; cases this
  refine wpAny_execs_cons (init3 (s := { s with heap := h3, toks := tk3 }) H M3 kp3 ks kt b1 b3 hdx heC e3 d3 g4 fun h4 tk4 mA e4 d4 m4 c4 => ?_)
  have old : ∀ b, s.heap.get? b ≠ none → b ≠ e → h2.get? b ≠ none := fun b x y => by
    cases z : s.heap.get? b with
    | none => exact absurd z x
    | some o => rw [c2 b o y (kk1 _ _ z)]; simp
  have hdn : s.heap.get? h2.objs.size = none := by
    cases z : s.heap.get? h2.objs.size with
    | none => rfl
    | some o => exact absurd (get_size h2) (old _ (by rw [z]; simp) hdx)
  refine wpAny_execs_nil (q h4 tk4 h2.objs.size ⟨t2, tk, mA, e4, hdx, d4, m4⟩ hdn fun b o x y => ?_)
  refine c4 b o x (fun z => by rw [z, hdn] at y; cases y) (c3 b o x (c2 b o x (kk1 _ _ y)))
end
end Gos
end

section
open PySem PySem.W PyProof.Rows
namespace Gos
open PySem

section
variable {M : Model} {A : Around} {E : Value → Shared → Prop} {env : Env}
variable {nm q : Str} {C N : Addr} {bs bm : List Value} {hdct : Bool} {sn : List Str} {sub : List Value} {ab : Bool} {col : Option Bool} {dd : Option Addr} {k0 k1 k2 k3 k5 : Option Value} {newId : String}
theorem raiseStmt_cas {s : Shared} {x : Sem Value} {Q : Flow → Shared → Prop} (hbase : bm.contains (.type "BaseException") = true) (hh : A.handled = none)
    (h : wpAny M A x (fun v s₁ => ∃ e t dx, v = .ref e ∧ s₁.heap.get? C = some (excClassObj nm q C N bs bm hdct sn sub ab col dd k0 k1 k2 k3 k5 newId) ∧
      s₁.heap.get? e = some { cls := .ref C, dict := some dx, data := .fields #[.ref t, .none, .none, .none, .bool false, .none] } ∧ E (.ref e) s₁) E s) :
    wpAny M A (raiseStmt env (some x) none) Q E s := by
  have hcB : (Value.ref C :: bm).contains (.type "BaseException") = true := by rw [List.contains_cons, hbase, Bool.or_true]
  unfold raiseStmt
  refine wpAny_bind (wpAny_mono h (fun v s₁ h₁ => ?_) fun _ _ x => x)
  obtain ⟨e, t, dx, rfl, hC, he, hE⟩ := h₁
  obtain ⟨hp, g, d, tk, os⟩ := s₁
  repeat (first | with_reducible refine wpAny_loadPart_at he ?_ | with_reducible refine wpAny_loadPart_at hC ?_ | (with_reducible refine wpAny_isSubtype_exc hC ?_; rw [hcB]) | wp_step)
  exact wpAny_raiseNew_none hh hE
end

section
variable {W : Gl} {A : Around} {E : Value → Shared → Prop} {s : Shared} {env : Env}
theorem raise_cas {C N fI : Addr} (H : Cas W C N fI) (FI : InitFn W fI) (B : W.Fine) (hex : W.mg "Exception" = none) (hh : A.handled = none) (room : A.depth + 5 < recursionLimit)
    {np cpos pos : Pos} {e1 e2 : Expr} (hplain : (backTo cpos (starEach [e1, e2] env)).any (·.1) = false) {Q : Flow → Shared → Prop}
    (h : wpAny (model W.prog W.w) A (eval (.Name "CasFail" np) env) (fun f s₁ => f = .ref C ∧ wpAny (model W.prog W.w) A (evalArgs (.ref C) true (backTo cpos (starEach [e1, e2] env)) [])
      (fun a s₂ => a.kw = [] ∧ Keep W.h₀ s₂.heap ∧ ∃ xk tk xt tt, a.pos = [.str xk tk, .str xt tt] ∧ xk.length ≤ 100 ∧ xt.length ≤ 1000 ∧
        ∀ h' tk e dx, IsCas h' e C dx xk → s₂.heap.get? e = none → s₂.heap.get? dx = none → Keep s₂.heap h' → E (.ref e) { s₂ with heap := h', toks := tk }) E s₁) E s) :
    wpAny (model W.prog W.w) A (exec (.Raise (some (.Call (.Name "CasFail" np) [e1, e2] [] cpos)) none pos) env) Q E s := by
  obtain ⟨nm, qq, bs, sn, sub, ab, col, dd, k0, k1, k2, k3, k5, hC⟩ := H.cls
  obtain ⟨mN, n0, n1, n2, n3, n4, n5, n6⟩ := H.ns
  rw [arm_exec_Raise]
  first
    | refine wpAny_bind (wpAny_standAt (raiseStmt_cas (C := C) (nm := nm) (q := qq) (N := N) (bs := bs) (bm := bmE) (hdct := true) (sn := sn) (sub := sub) (ab := ab) (col := col) (dd := dd) (k0 := k0) (k1 := k1) (k2 := k2) (k3 := k3) (k5 := k5) (newId := "Exception.__new__") (by decide +kernel) hh (wpAny_bind (wpAny_mono (wpAny_Call_ofName (wpAny_mono h (fun f s₁ h₁ => ?_) fun _ _ x => x)) (fun v s₃ h₃ => wpAny_bind (wpAny_standAt (wpAny_pure h₃))) fun _ _ x => x))))
    | (simp only [evalOpt, Option.map]; refine wpAny_bind (wpAny_standAt (raiseStmt_cas (C := C) (nm := nm) (q := qq) (N := N) (bs := bs) (bm := bmE) (hdct := true) (sn := sn) (sub := sub) (ab := ab) (col := col) (dd := dd) (k0 := k0) (k1 := k1) (k2 := k2) (k3 := k3) (k5 := k5) (newId := "Exception.__new__") (by decide +kernel) hh (wpAny_bind (wpAny_mono (wpAny_Call_ofName (wpAny_mono h (fun f s₁ h₁ => ?_) fun _ _ x => x)) (fun v s₃ h₃ => wpAny_bind (wpAny_standAt (wpAny_pure h₃))) fun _ _ x => x)))))
  obtain ⟨rfl, h₁⟩ := h₁
  unfold callWith
  refine wpAny_bind (wpAny_holding (wpAny_mono h₁ (fun a s₂ h₂ => wpAny_bind (wpAny_standAt ?_)) fun _ _ x => x))
  obtain ⟨apos, akw⟩ := a
  obtain ⟨hkw, base, xk, tk, xt, tt, hp, lk, lt, h₂⟩ := h₂
  obtain rfl : akw = [] := hkw
  obtain rfl : apos = [.str xk tk, .str xt tt] := hp
  obtain ⟨hp, g, d, tk0, os⟩ := s₂
  have hC2 : hp.get? C = some (excClassObj nm qq C N bs bmE true sn sub ab col dd k0 k1 k2 k3 k5 "Exception.__new__") := base _ _ hC
  simp only [hplain]
  refine wpAny_bind (wpAny_keeperOf_exc hC2 ?_)
  obtain ⟨oI, fd, rest⟩ := FI.ex
  have fI1 : W.h₀.get? fI = some oI ∧ oI.cls = .type "function" := by
    obtain ⟨p1, p2, p3, p4, p5, q1, q2, q3, q4, q5, c, r1, r2, r3, r4, u1, u2, u3, u4, f1, f2, _⟩ := rest
    exact ⟨f1, f2⟩
  refine wpAny_bind (wpAny_call_exc_init PySem.F.excBase_Exception hC2 (n0.keeps base) n1 (base _ _ fI1.1) fI1.2 (fun h' e hm => ?_) (by rw [sizeLine_eq]; show (2 : Nat) ≤ 16777216; decide))
  obtain ⟨t, ht, htn, _⟩ := hm.there
  have kb : Keep W.h₀ h' := fun b o x => hm.keeps b o (base b o x)
  have he0 : W.h₀.get? e = none := back base hm.new
  refine init_call (s := ⟨h', g, d, tk0, os⟩) H FI B hex kb he0 (by show A.depth + 1 < _; omega) lk lt ht fun h2 tk2 dx i1 i2 i3 => ⟨rfl, wpAny_bind (wpAny_holding (wpAny_point (wpAny_pure ?_)))⟩
  have kk : Keep hp h2 := fun b o x => i3 b o (fun y => by rw [y, hm.new] at x; cases x) (hm.keeps b o x)
  obtain ⟨t2, tk3, mA, j1, j2, j3, j4⟩ := i1
  exact ⟨e, t2, dx, rfl, kk _ _ hC2, j1, h₂ h2 tk2 e dx ⟨t2, tk3, mA, j1, j2, j3, j4⟩ hm.new (back hm.keeps i2) kk⟩
end
end Gos
end

section
open PySem PySem.W PyProof.Rows
namespace Gos
open PySem

noncomputable def DictAt (h : Heap) (e dx : Addr) : Prop := ∃ o, h.get? e = some o ∧ o.dict = some dx

/-- a tree that leaves an object's dict in place -/
structure KD (e dx : Addr) {α : Type} (t : Sem α) : Prop where
  out : ∀ (M : Model) (Γ : Ctx) (P : α → Pos → Shared → Prop) (Ee : Value → Pos → Shared → Prop) (p : Pos) (s : Shared), DictAt s.heap e dx → _root_.PySem.Sem.wp M Γ t P Ee p s →
    _root_.PySem.Sem.wp M Γ t (fun a p' s' => P a p' s' ∧ DictAt s'.heap e dx) (fun x p' s' => Ee x p' s' ∧ DictAt s'.heap e dx) p s

theorem dict_update {h : Heap} {e dx a : Addr} {f : Obj → Obj} (hf : ∀ o, o.isFreed = false → (f o).isFreed = false ∧ (f o).dict = o.dict) (d : DictAt h e dx) : DictAt (h.update a f) e dx := by
  obtain ⟨o, ho, hd⟩ := d
  by_cases x : a = e
  · subst x
    have hfr := (Heap.get?_some_iff.mp ho).2
    exact ⟨f o, Heap.get?_update_self f ho (hf o hfr).1, by rw [(hf o hfr).2]; exact hd⟩
  · exact ⟨o, (Heap.get?_update_other _ _ x).trans ho, hd⟩
theorem mapFields_ok (f : Array Value → Array Value) : ∀ o : Obj, o.isFreed = false → (Obj.mapFields f o).isFreed = false ∧ (Obj.mapFields f o).dict = o.dict := fun o h => by
  obtain ⟨c, d, dt, sl⟩ := o
  cases dt <;> first | exact ⟨rfl, rfl⟩ | exact ⟨h, rfl⟩

namespace KD
variable {α β : Type} {e dx : Addr}
theorem pure (a : α) : KD e dx (Pure.pure a : Sem α) := ⟨fun _ _ _ _ _ _ d h => ⟨h, d⟩⟩
theorem unsupported (w : String) : KD e dx (PySem.unsupported w : Sem α) := ⟨fun _ _ _ _ _ _ _ h => h⟩
theorem bind {m : Sem α} {f : α → Sem β} (hm : KD e dx m) (hf : ∀ a, KD e dx (f a)) : KD e dx (m >>= f) := ⟨fun M Γ P Ee p s d h => by
  rw [Sem.wp_bind'] at h ⊢
  exact Sem.wp_mono M Γ m (fun a p' s' h' => (hf a).out M Γ P Ee p' s' h'.2 h'.1) (fun _ _ _ x => x) p s (hm.out M Γ _ Ee p s d h)⟩
theorem ite {c : Prop} [Decidable c] {t u : Sem α} (ht : KD e dx t) (hu : KD e dx u) : KD e dx (if c then t else u) := by split <;> assumption
theorem load (a : Addr) : KD e dx (PySem.load a) := ⟨fun _ _ _ _ _ _ d h => by
  unfold PySem.load at h ⊢
  rw [Sem.wp_load] at h ⊢
  obtain ⟨o, h1, h2⟩ := h
  exact ⟨o, h1, h2, d⟩⟩
theorem update (a : Addr) (f : Obj → Obj) (hf : ∀ o, o.isFreed = false → (f o).isFreed = false ∧ (f o).dict = o.dict) : KD e dx (PySem.update a f) := ⟨fun _ _ _ _ _ _ d h => by
  unfold PySem.update at h ⊢
  rw [Sem.wp_update] at h ⊢
  exact ⟨h.1, h.2, dict_update hf d⟩⟩
theorem stack : KD e dx PySem.stack := ⟨fun M Γ P Ee p s d h => by
  unfold PySem.stack at h ⊢
  rw [Sem.wp_stack] at h ⊢
  exact ⟨h, d⟩⟩
theorem alloc (o : Obj) : KD e dx (PySem.alloc o) := ⟨fun _ _ _ _ _ _ d h => by
  unfold PySem.alloc at h ⊢
  rw [Sem.wp_alloc] at h ⊢
  exact ⟨h, let ⟨o', h1, h2⟩ := d; ⟨o', Heap.get?_push_of_some _ h1, h2⟩⟩⟩
theorem field (v : Value) (i : Nat) : KD e dx (PySem.field v i) := ⟨fun _ Γ P Ee p s d h => by
  obtain ⟨a, o, vs, x, h1, h2, h3, h4, h5⟩ := (wp_field_iff Γ v i P Ee p s).mp h
  exact (wp_field_iff Γ v i _ _ p s).mpr ⟨a, o, vs, x, h1, h2, h3, h4, h5, d⟩⟩
theorem setField (v : Value) (i : Nat) (x : Value) : KD e dx (PySem.setField v i x) := ⟨fun _ Γ P Ee p s d h => by
  obtain ⟨a, o, vs, h1, h2, h3, h4, h5⟩ := (wp_setField_iff Γ v i x P Ee p s).mp h
  exact (wp_setField_iff Γ v i x _ _ p s).mpr ⟨a, o, vs, h1, h2, h3, h4, h5, dict_update (mapFields_ok _) d⟩⟩
end KD

section
variable {e dx : Addr}
theorem kd_behindIsImport (env : Env) (outer : List Env) : KD e dx (behindIsImport env outer) := by
  unfold behindIsImport
  repeat' with_reducible first | assumption | exact KD.pure _ | exact KD.unsupported _ | exact KD.field _ _ | exact KD.setField _ _ _ | exact KD.load _ | exact KD.stack | exact KD.alloc _ | apply KD.ite | apply KD.bind | intro _ | split
theorem kd_under : KD e dx underTheClaimsCaller := by
  unfold underTheClaimsCaller
  repeat' with_reducible first | assumption | exact KD.pure _ | exact KD.unsupported _ | exact KD.field _ _ | exact KD.setField _ _ _ | exact KD.load _ | exact KD.stack | exact KD.alloc _ | apply KD.ite | apply KD.bind | intro _ | split
theorem kd_keptBack (env : Env) (i : Bool) (l : List Env) : KD e dx (keptBack env i l) := by
  have := kd_under (e := e) (dx := dx)
  cases l <;> unfold keptBack <;> repeat' with_reducible first | assumption | exact KD.pure _ | exact KD.unsupported _ | exact KD.field _ _ | exact KD.setField _ _ _ | exact KD.load _ | exact KD.stack | exact KD.alloc _ | apply KD.ite | apply KD.bind | intro _ | split
theorem kd_readyFrames : ∀ l : List Env, KD e dx (readyFrames l)
  | [] => KD.pure _
  | env :: outer => by
    have ih := kd_readyFrames outer
    have h1 := kd_behindIsImport (e := e) (dx := dx) env outer
    have h2 := fun i => kd_keptBack (e := e) (dx := dx) env i outer
    unfold readyFrames
    repeat' with_reducible first | assumption | exact KD.pure _ | exact KD.unsupported _ | exact KD.field _ _ | exact KD.setField _ _ _ | exact KD.load _ | exact KD.stack | exact KD.alloc _ | apply KD.ite | apply KD.bind | intro _ | split
    all_goals try exact h2 _
    all_goals
      refine KD.update _ _ ?_
      intro o h
      obtain ⟨c, d, dt, sl⟩ := o
      cases dt <;> first | exact ⟨rfl, rfl⟩ | cases h
theorem kd_frameObject (l : List Env) : KD e dx (frameObject l) := by
  cases l with
  | nil => exact KD.pure _
  | cons env outer =>
    have := kd_readyFrames (e := e) (dx := dx) (env :: outer)
    unfold frameObject
    repeat' with_reducible first | assumption | exact KD.pure _ | apply KD.bind | intro _ | split
theorem kd_frameEnvs : KD e dx frameEnvs := by
  unfold frameEnvs
  repeat' with_reducible first | assumption | exact KD.pure _ | exact KD.stack | apply KD.bind | intro _ | split
theorem kd_frameOf (env : Env) : KD e dx (PySem.frameOf env) := by
  have h1 := kd_frameEnvs (e := e) (dx := dx)
  have h2 := kd_frameObject (e := e) (dx := dx)
  unfold PySem.frameOf
  repeat' with_reducible first | assumption | exact KD.pure _ | exact KD.unsupported _ | exact h2 _ | apply KD.bind | intro _ | split
  all_goals first | exact h2 _ | skip
theorem kd_entryPlaceOf (f : Addr) (b : Bool) : KD e dx (entryPlaceOf f b) := by
  unfold entryPlaceOf
  repeat' with_reducible first | assumption | exact KD.pure _ | exact KD.unsupported _ | exact KD.stack | apply KD.ite | apply KD.bind | intro _ | split
theorem kd_newEntry (a b c d f : Value) (l : List Value) : KD e dx (EntryCells.newEntry a b c d f l) := by
  unfold EntryCells.newEntry newFields newObj newObjAsIs
  repeat' with_reducible first | assumption | exact KD.pure _ | exact KD.unsupported _ | exact KD.alloc _ | apply KD.ite | apply KD.bind | intro _ | split
theorem kd_noteFrame (v : Value) (env : Env) : KD e dx (noteFrame v env) := by
  have h1 := kd_frameOf (e := e) (dx := dx) env
  have h2 := fun f b => kd_entryPlaceOf (e := e) (dx := dx) f b
  have h3 := fun a b c d f l => kd_newEntry (e := e) (dx := dx) a b c d f l
  unfold noteFrame
  repeat' with_reducible first | assumption | exact KD.pure _ | exact KD.unsupported _ | exact KD.field _ _ | exact KD.setField _ _ _ | exact h2 _ _ | exact h3 _ _ _ _ _ _ | apply KD.ite | apply KD.bind | intro _ | split
theorem kd_setFlight (v : Value) (f : Option Addr) : KD e dx (setFlight v f) := by
  unfold setFlight
  repeat' with_reducible first | assumption | exact KD.pure _ | exact KD.unsupported _ | exact KD.field _ _ | exact KD.setField _ _ _ | apply KD.ite | apply KD.bind | intro _ | split
theorem kd_leaving (v : Value) (env : Env) : KD e dx (leaving env v) := by
  unfold leaving
  exact KD.bind (kd_noteFrame v env) fun _ => kd_setFlight v none
theorem wpAny_kd {α : Type} {M : Model} {A : Around} {t : Sem α} {Q : α → Shared → Prop} {E : Value → Shared → Prop} {s : Shared} (k : KD e dx t) (d : DictAt s.heap e dx) (h : wpAny M A t Q E s) :
    wpAny M A t (fun a s' => Q a s' ∧ DictAt s'.heap e dx) E s := fun Γ p hΓ =>
  Sem.wp_mono M Γ t (fun a p' s' x => x) (fun _ _ _ x => x.1) p s (k.out M Γ _ _ p s d (h Γ p hΓ))
end
end Gos
end

section
open PySem PySem.W PyProof.Rows
namespace Gos
open PySem

/-- what a raise in the frame itself leaves -/
noncomputable def PostX (C : Addr) (hb : PH) (env : Env) (s : Shared) (E : Value → Shared → Prop) : Prop :=
  ∀ h' tk e dx m, PKeep hb h' → IsCas h' e C dx "limit" → hb.get? e = none → hb.get? dx = none → h'.Ns env.locals m → E (.ref e) { s with heap := h', toks := tk }
noncomputable def DenX (W : Gl) (C : Addr) (n : Nat) (Γ : Lay) (G : List Str) (st : Stmt) (g : List S → Bool) : Prop :=
  ∀ A env s hb M₀ M ρ oa Q E, Cx W n Γ G A env hb M₀ → St Γ env hb M₀ ρ s.heap M oa → g ρ = true → PostX C hb env s E → wpAny (model W.prog W.w) A (exec st env) Q E s
noncomputable def DenSX (W : Gl) (C : Addr) (n : Nat) (Γ : Lay) (G : List Str) (sts : List Stmt) (g : List S → Bool) : Prop :=
  ∀ A env s hb M₀ M ρ oa Q E, Cx W n Γ G A env hb M₀ → St Γ env hb M₀ ρ s.heap M oa → g ρ = true → PassesOwn (model W.prog W.w) A env E → PostX C hb env s E → wpAny (model W.prog W.w) A (execs sts env) Q E s
noncomputable def DenPX (W : Gl) (C : Addr) (n : Nat) (Γ : Lay) (G : List Str) (sts : List Stmt) (g : List S → Bool) : Prop :=
  ∀ A env s hb M₀ M ρ oa Q E, Cx W n Γ G A env hb M₀ → St Γ env hb M₀ ρ s.heap M oa → g ρ = true → PostX C hb env s E → wpAny (model W.prog W.w) A (execs sts env) Q E s
noncomputable def DenFX (W : Gl) (C : Addr) (n : Nat) (Γ : Lay) (G : List Str) (st : Stmt) (g : List S → Bool) : Prop :=
  ∀ A env s hb M₀ M ρ oa Q E, Cx W n Γ G A env hb M₀ → St Γ env hb M₀ ρ s.heap M oa → g ρ = true → PassesOwn (model W.prog W.w) A env E → PostX C hb env s E → wpAny (model W.prog W.w) A (exec st env) Q E s

noncomputable def nextX (g2 : List S → Bool) : Option Fl → Bool
  | some (.next ρ) => g2 ρ
  | _ => false
noncomputable def ifX (g : List S → Bool) (ρ : List S) : Option Bool → Bool
  | some true => g ρ
  | _ => false
noncomputable def forX (u : D → List S → Option (List S)) (g : List S → Bool) (ρ : List S) : Option (List D) → Bool
  | some (d :: _) => (match u d ρ with
    | some ρ1 => g ρ1
    | none => false)
  | _ => false

section
variable {W : Gl} {C : Addr} {n : Nat} {Γ : Lay} {G : List Str}
theorem DenPX.here {st : Stmt} {rest : List Stmt} {g : List S → Bool} (h : DenX W C n Γ G st g) : DenPX W C n Γ G (st :: rest) g := fun A env s hb M₀ M ρ oa Q E cx t e q =>
  wpAny_execs_cons (h A env s hb M₀ M ρ oa _ E cx t e q)
theorem DenSX.here {st : Stmt} {rest : List Stmt} {g : List S → Bool} (h : DenFX W C n Γ G st g) : DenSX W C n Γ G (st :: rest) g := fun A env s hb M₀ M ρ oa Q E cx t e ho q =>
  wpAny_execs_cons (h A env s hb M₀ M ρ oa _ E cx t e ho q)
theorem nextX_some {g2 : List S → Bool} {o : Option Fl} (h : nextX g2 o = true) : ∃ ρ, o = some (.next ρ) ∧ g2 ρ = true := by
  unfold nextX at h
  split at h
  · exact ⟨_, rfl, h⟩
  · cases h
theorem DenPX.next {st : Stmt} {rest : List Stmt} {g1 : List S → Option Fl} {g2 : List S → Bool} (h1 : DenO W n Γ G st g1) (h2 : DenPX W C n Γ G rest g2) : DenPX W C n Γ G (st :: rest) (fun ρ => nextX g2 (g1 ρ)) := fun A env s hb M₀ M ρ oa Q E cx t e q => by
  obtain ⟨ρ', e1, e2⟩ := nextX_some e
  exact wpAny_execs_cons (h1 A env s hb M₀ M ρ oa _ _ E cx t e1 fun h' tk M' oa' st t' => h2 A env _ hb M₀ M' ρ' oa' Q E cx t' e2 q)
theorem DenSX.next {st : Stmt} {rest : List Stmt} {g1 : List S → Option Fl} {g2 : List S → Bool} (h1 : DenO W n Γ G st g1) (h2 : DenSX W C n Γ G rest g2) : DenSX W C n Γ G (st :: rest) (fun ρ => nextX g2 (g1 ρ)) := fun A env s hb M₀ M ρ oa Q E cx t e ho q => by
  obtain ⟨ρ', e1, e2⟩ := nextX_some e
  exact wpAny_execs_cons (h1 A env s hb M₀ M ρ oa _ _ E cx t e1 fun h' tk M' oa' st t' => h2 A env _ hb M₀ M' ρ' oa' Q E cx t' e2 ho q)
theorem DenX.if {c : Expr} {b o : List Stmt} {pos : Pos} {ft : List S → Option Bool} {gb : List S → Bool} (ht : DenT W n Γ G c ft) (hb : DenPX W C n Γ G b gb) : DenX W C n Γ G (.If c b o pos) (fun ρ => ifX gb ρ (ft ρ)) := fun A env s hb' M₀ M ρ oa Q E cx t e q => by
  dsimp only at e
  unfold ifX at e
  split at e
  · rename_i hf
    exact wpAny_If (ht A env s M ρ oa true _ E (cx.pre t) hf fun h1 tk1 k1 => hb A env _ hb' M₀ M ρ oa Q E cx (t.keep k1) e q)
  · cases e
theorem forX_some {u : D → List S → Option (List S)} {g : List S → Bool} {ρ : List S} {o : Option (List D)} (h : forX u g ρ o = true) : ∃ d ds ρ1, o = some (d :: ds) ∧ u d ρ = some ρ1 ∧ g ρ1 = true := by
  unfold forX at h
  split at h
  · split at h
    · exact ⟨_, _, _, rfl, by assumption, h⟩
    · cases h
  · cases h
theorem DenFX.for {k : Nat} {tg iter : Expr} {body : List Stmt} {pos : Pos} {u : D → List S → Option (List S)} {gb : List S → Bool} {fs : List S → Option (List D)} (hi : DenI W n Γ G tg iter fs) (hu : DenTg W Γ G k tg u) (hbd : DenPX W C n Γ G body gb)
    (hs : notSet iter = true := by rfl) : DenFX W C n Γ G (.For tg iter body [] pos) (fun ρ => forX u gb ρ (fs ρ)) := fun A env s hb M₀ M ρ oa Q E cx t e ho q => by
  obtain ⟨d, ds, ρ1, e1, hu1, e2⟩ := forX_some e
  refine wpAny_For ?_ (folded_notSet hs)
  refine hi A env s M ρ oa _ _ E (cx.pre t) e1 fun it own hA tkA kA ho1 ho2 hit hself => ?_
  have oF : ∀ b, own b → hb.get? b = none := fun b x => t.kb.back (ho1 b x)
  have t' := t.keep kA
  refine codeAny_forLoop_any (fun m s' => s' = { s with heap := hA, toks := tkA }) ?_ 0 rfl
  rintro m s' rfl
  refine wpAny_mono (hit hA M (.refl _ _) t'.env.dom { s with heap := hA, toks := tkA } (fun r s1 => match r with
      | none => False
      | some v => wpAny (model W.prog W.w) A (PySem.assign tg env v) (fun _ s₂ => wpAny (model W.prog W.w) A (execs body env) (fun f s₃ => match f with
            | .next | .cont => ∃ m', m' < m ∧ s₃ = { s with heap := hA, toks := tkA }
            | .brk => Q .next s₃
            | .ret v => Q (.ret v) s₃) (notedBy (model W.prog W.w) A env (cameBackBy (model W.prog W.w) A env E)) s₂) (notedBy (model W.prog W.w) A env (cameBackBy (model W.prog W.w) A env E)) s1) _ rfl fun v h2 tk2 k2 ow2 rv it2 => ?_) (fun r s1 hr => ?_) fun _ _ x => x
  · have t2 := t'.move k2 (fun b x m => t.env.dom b m (ho1 b x)) oF
    refine hu A env { s with heap := h2, toks := tk2 } M ρ oa v d ρ1 _ _ ⟨cx.ok.hd, by have := cx.ok.dp; omega, by have := cx.ok.un; omega⟩ cx.es t2.env rv hu1 fun h3 tk3 c1 c2 c3 eo3 => ?_
    have tgF : ∀ b, TgA Γ env k b → hb.get? b = none := fun b x => by
      rcases x with rfl | ⟨i, x, _, hx, hc⟩
      · exact cx.lF
      · exact cx.cF i x b hx hc
    have t3 : St Γ env hb M₀ ρ1 h3 M oa := ⟨eo3, fun b o e => c1 b o (fun x => by rw [tgF b x] at e; cases e) (t2.kb b o e), t2.sub, t2.new, fun j ds e => t2.oF j ds (c3 j ds e)⟩
    exact hbd A env { s with heap := h3, toks := tk3 } hb M₀ M ρ1 oa _ _ cx t3 e2 fun h' tk ee dx mm p1 p2 p3 p4 p5 => ho _ _ (q h' tk ee dx mm p1 p2 p3 p4 p5)
  · cases r with
    | none => exact hr.elim
    | some v => exact hr

theorem DenE.catStr (B : W.Fine) {xt y : Str} {i : Int} (K : GlobC W y (.int i)) (hi : i.natAbs.log2 < 1920) {p2 p3 p4 p5 p6 : Pos} {k2 : Nat} (hl : xt.length + (Str.ofString (toString i)).length ≤ 1000) (hs : ("str" : Str) ∈ G) (hy : y ∈ G) :
    DenE W n Γ G (.BinOp (.Constant (.str xt) k2 p2) .Add (.Call (.Name "str" p3) [.Name y p4] [] p5) p6) (fun _ => some (.str (xt ++ Str.ofString (toString i)))) := fun A env s M ρ oa d Q E P e q => by
  cases e
  obtain ⟨v, hv, rv⟩ := K
  cases rv with
  | int _ tk0 =>
  refine wpAny_BinOp (Calls.Constant_str ?_)
  have P2 : Pre W n Γ G A env { s with toks := s.toks + 1 } M ρ oa := P.up (tk := s.toks + 1) (Keep.refl _)
  refine wpAny_Call_NameR (nameBlt B.toOk P2 hs (B.miss "str" (by decide +kernel)) (by decide) (v := .type "str") (by rfl) ?_)
  refine callBlt (.inr ⟨_, rfl⟩) (by rfl) ?_
  refine (DenA.cons (DenE.glob B.toOk (d := .int i) ⟨_, hv, .int _ _⟩ hy) DenA.nil) A env _ M ρ oa _ _ E _ P2 rfl fun vs h1 tk1 kk1 r1 => ?_
  cases r1 with
  | cons r1 r2 =>
  cases r2 with
  | nil =>
  cases r1 with
  | int _ tt =>
  refine PySem.P.str_of_int hi (PyProof.Rows.add_str (fun t1 tk1 => ?_) ?_)
  · exact q _ h1 _ kk1 (.str _ _)
  · rw [sizeLine_eq]
    exact Nat.le_trans hl (by decide)

/-- raise CasFail('limit', text + str(number)) -/
theorem DenX.raise {N fI : Addr} (H : Cas W C N fI) (FI : InitFn W fI) (B : W.Fine) (hex : W.mg "Exception" = none) {e1 e2 : Expr} {xt : Str} (ha : DenA W (n + 5) Γ G [e1, e2] (fun _ => some [.str "limit", .str xt])) {np cpos pos : Pos}
    (hl : xt.length ≤ 1000) (hc : ("CasFail" : Str) ∈ G) (h1 : isStarred e1 = false) (h2 : isStarred e2 = false) : DenX W C (n + 5) Γ G (.Raise (some (.Call (.Name "CasFail" np) [e1, e2] [] cpos)) none pos) (fun _ => true) := fun A env s hb M₀ M ρ oa Q E cx t _ q => by
  have P := cx.pre t
  have hst : starEach [e1, e2] env = [(false, eval e1 env), (false, eval e2 env)] := by rw [starEach_cons h1, starEach_cons h2]; rfl
  refine raise_cas H FI B hex cx.ok.hd (by have := cx.ok.dp; show _ < 1000; omega) (by rw [hst]; rfl) ?_
  refine nameGlob B.toOk P hc H.mg ⟨rfl, ?_⟩
  have key : wpAny (model W.prog W.w) A (spliced (backTo cpos (starEach [e1, e2] env))) (fun vs s₂ => (⟨vs, []⟩ : Args).kw = [] ∧ Keep W.h₀ s₂.heap ∧ ∃ xk tk xt tt, (⟨vs, []⟩ : Args).pos = [.str xk tk, .str xt tt] ∧ xk.length ≤ 100 ∧ xt.length ≤ 1000 ∧
        ∀ h' tk e dx, IsCas h' e C dx xk → s₂.heap.get? e = none → s₂.heap.get? dx = none → Keep s₂.heap h' → E (.ref e) { s₂ with heap := h', toks := tk }) E s := by
    refine ha A env s M ρ oa _ _ E cpos P rfl fun vs h1 tk1 kk1 r1 => ?_
    cases r1 with
    | cons r1 r2 =>
    cases r2 with
    | cons r2 r3 =>
    cases r3 with
    | nil =>
    cases r1 with
    | str _ ta =>
    cases r2 with
    | str _ tb =>
    refine ⟨rfl, P.base.trans kk1, "limit", _, _, _, rfl, by decide, hl, fun h' tk e dx ic en dn kk => ?_⟩
    exact q h' tk e dx _ (t.kb.trans (kk1.trans kk)) ic (t.kb.back (back kk1 en)) (t.kb.back (back kk1 dn)) (t.env.ns.keeps (kk1.trans kk))
  rw [hst] at key ⊢
  exact Calls.evalArgs_plain key
end
end Gos
end

section
open PySem PySem.W PyProof.Rows
namespace Gos
open PySem

/-- the exception in flight over the frames `l` -/
noncomputable def Flies (base : Heap) (l : List Env) (C e : Addr) (h : Heap) : Prop := ∃ a0 dx tk mA, Heap.FlyingW base l e (.ref C) a0 h ∧ DictAt h e dx ∧ h.Ns dx mA ∧ mA "kind" = some (.str "limit" tk) ∧ ∀ env ∈ l, env.frame ≠ some dx

noncomputable def RaisesC (W : Gl) (C : Addr) (x : Str) (r : Nat) (F : List D → Bool) : Prop :=
  ∃ a o fd, W.mg x = some (.ref a) ∧ W.h₀.get? a = some o ∧ o.data = .func fd ∧ ∀ A s M vs ds Q E base outer, Ok r A → Keep W.h₀ s.heap → (∀ a, M a → W.h₀.get? a = Option.none) → Dom s.heap M → RelAll s.heap M vs ds → F ds = true →
    A.frames = some outer → base.StaysIn s.heap → s.heap.FunFrames base outer → (∀ e h' tk, Flies base outer C e h' → s.heap.UpToSlots h' → E (.ref e) { s with heap := h', toks := tk }) → wpAny (model W.prog W.w) A (call (.ref a) vs) Q E s

theorem funFrames_keep {base h h' : Heap} {l : List Env} (x : h.FunFrames base l) (k : Keep h h') : h'.FunFrames base l := x.of_keeps fun b o e _ => ⟨o, k b o e, rfl⟩

section
variable {W : Gl} {C : Addr} {n : Nat} {Γ : Lay} {G : List Str}
theorem RaisesC.of (B : W.Fine) {x : Str} {ps : List Str} {body : List Stmt} {sc : Scope} {g : List S → Bool} (m : Nat) (F : FnAt W x ps body sc) (fs : FnS Γ G sc ps) (hb : DenSX W C n Γ G body g) : RaisesC W C x (n + 1) (fun ds => Nat.beq ds.length ps.length && g (start ds m)) := by
  obtain ⟨a, o, fd, f1, f2, f3, f4, f5, f6, f7, f8, f9, f10⟩ := F.ex
  refine ⟨a, o, fd, f1, f2, f3, fun A s M vs ds Q E bs outer ok base off dm r e hfr hbs hff q => ?_⟩
  obtain ⟨hl, hg⟩ := Bool.and_eq_true_iff.mp e
  have hl : ds.length = ps.length := Nat.eq_of_beq_eq_true hl
  refine wpAny_call (fn_enter B m fs f2 f3 f4 f5 f6 f7 f8 f9 f10 ok base off dm r hl fun env h1 tk1 M1 hfe hloc cx st => ?_)
  refine hb (A.deeper env) env { s with heap := h1, toks := tk1 } ⟨s.heap.get?⟩ M M1 (start ds m) (fun _ => 0) _ _ cx st hg PassesOwn.leaving fun h' tk e dx mm pk ic en dn hns => ?_
  have hk : Keep s.heap h' := pk
  have en : s.heap.get? e = none := en
  obtain ⟨t, tk', mA, he, hne, hd, hk2⟩ := ic
  have hbL : bs.get? env.locals = none := by
    cases z : bs.get? env.locals with
    | none => rfl
    | some o => have := hbs _ _ z; rw [hloc, get_size] at this; cases this
  have hff' : h'.FunFrames bs (env :: outer) := by
    refine ⟨by rw [cx.es.kind]; simp, ?_, funFrames_keep hff hk⟩
    obtain ⟨o, es, ep, g1, g2, _⟩ := hns
    exact ⟨env.locals, o, hfe, hbL, g1, fun vs x => by rw [g2] at x; cases x⟩
  have hbe : bs.get? e = none := by
    cases z : bs.get? e with
    | none => rfl
    | some o => have := hbs _ _ z; rw [en] at this; cases this
  refine wpAny_mono (wpAny_kd (e := e) (dx := dx) (kd_leaving (.ref e) env) ⟨_, he, rfl⟩ (wpAny_leaving_firstW (Q := fun _ s' => ∃ h2, s' = ({ s with heap := h2, toks := tk } : Shared) ∧ Heap.LeftW bs (env :: outer) e (.ref C) (.ref t) h' h2) (a0 := .ref t) (base := bs) (outer := outer) (Around.frames_deeper hfr) hff' hfe he (fun b o x => hk b o (hbs b o x)) hbe rfl rfl rfl fun h2 hL => ⟨h2, rfl, hL⟩)) ?_ fun _ _ x => x
  rintro _ s' ⟨⟨h2, rfl, l1, l2, l3, l4⟩, D⟩
  refine q e h2 tk ⟨.ref t, dx, tk', mA, ⟨l1, hbe, l2.2.2, l3⟩, D, ?_, hk2, fun env' hm hf' => ?_⟩ ((Heap.UpToSlots.of_keeps hk).trans l4)
  · exact Heap.UpToSlots.ns l4 hd.ns
  · obtain ⟨_, o, ho, _⟩ := hff.mem (List.mem_filterMap.mpr ⟨env', hm, hf'⟩)
    have dn : s.heap.get? dx = none := dn
    rw [dn] at ho; cases ho

theorem RaisesC.call {x : Str} {r : Nat} {F : List D → Bool} {e : Expr} {es : List Expr} {fs : List S → Option (List D)} {p pos : Pos} (B : W.Ok) (K : RaisesC W C x r F) (ha : DenA W n Γ G (e :: es) fs) {A : Around} {env : Env} {s : Shared} {M : Addr → Prop} {ρ : List S} {oa : Nat → Addr} {Q : Value → Shared → Prop} {E : Value → Shared → Prop} {base : Heap} {outer : List Env}
    (P : Pre W n Γ G A env s M ρ oa) {ds : List D} (h1 : fs ρ = some ds) (h2 : F ds = true) (hfr : A.frames = some outer) (hbs : base.StaysIn s.heap) (hff : s.heap.FunFrames base outer)
    (q : ∀ e h' tk, Flies base outer C e h' → s.heap.UpToSlots h' → E (.ref e) { s with heap := h', toks := tk }) (hx : x ∈ G := by decide +kernel) (hr : r + 1 ≤ n := by decide) (hs : isStarred e = false := by rfl) :
    wpAny (model W.prog W.w) A (eval (.Call (.Name x p) (e :: es) [] pos) env) Q E s := by
  obtain ⟨a, o, fd, c1, c2, c3, c4⟩ := K
  refine wpAny_Call_NameR (nameGlob B P hx c1 ?_)
  refine PyProof.Rows.callWith_def c3 (ha A env s M ρ oa ds _ E pos P h1 fun vs h1 tk1 k1 r1 => ⟨k1 _ _ (P.base _ _ c2), ?_⟩) (starEach_cons hs)
  exact c4 A _ M vs ds Q E base outer (P.ok.less (by omega)) (P.base.trans k1) P.off (P.env.keep k1).dom r1 h2 hfr (fun b o x => k1 b o (hbs b o x)) (funFrames_keep hff k1) fun e h' tk f u => q e h' tk f ((Heap.UpToSlots.of_keeps k1).trans u)

/-- a def whose first statement is given the exception by its callee -/
theorem RaisesC.pass (B : W.Fine) {x : Str} {ps : List Str} {st : Stmt} {rest : List Stmt} {sc : Scope} {g : List S → Bool} (m : Nat) (F : FnAt W x ps (st :: rest) sc) (fs : FnS Γ G sc ps)
    (hb : ∀ A env s M ρ oa Q E base outer, Pre W n Γ G A env s M ρ oa → g ρ = true → A.frames = some outer → base.StaysIn s.heap → s.heap.FunFrames base outer → (∀ e h' tk, Flies base outer C e h' → s.heap.UpToSlots h' → E (.ref e) { s with heap := h', toks := tk }) → wpAny (model W.prog W.w) A (exec st env) Q E s) :
    RaisesC W C x (n + 1) (fun ds => Nat.beq ds.length ps.length && g (start ds m)) := by
  obtain ⟨a, o, fd, f1, f2, f3, f4, f5, f6, f7, f8, f9, f10⟩ := F.ex
  refine ⟨a, o, fd, f1, f2, f3, fun A s M vs ds Q E bs outer ok base off dm r e hfr hbs hff q => ?_⟩
  obtain ⟨hl, hg⟩ := Bool.and_eq_true_iff.mp e
  have hl : ds.length = ps.length := Nat.eq_of_beq_eq_true hl
  refine wpAny_call (fn_enter B m fs f2 f3 f4 f5 f6 f7 f8 f9 f10 ok base off dm r hl fun env h1 tk1 M1 hfe hloc cx st => ?_)
  have hk : Keep s.heap h1 := st.kb
  have hbL : bs.get? env.locals = none := by
    cases z : bs.get? env.locals with
    | none => rfl
    | some o => have := hbs _ _ z; rw [hloc, get_size] at this; cases this
  have hff' : h1.FunFrames bs (env :: outer) := by
    refine ⟨by rw [cx.es.kind]; simp, ?_, funFrames_keep hff hk⟩
    obtain ⟨o, es, ep, g1, g2, _⟩ := st.env.ns
    exact ⟨env.locals, o, hfe, hbL, g1, fun vs x => by rw [g2] at x; cases x⟩
  refine wpAny_execs_cons (hb (A.deeper env) env { s with heap := h1, toks := tk1 } M1 (start ds m) (fun _ => 0) _ _ bs (env :: outer) (cx.pre st) hg (Around.frames_deeper hfr) (fun b o x => hk b o (hbs b o x)) hff' fun e h' tk fl u => ?_)
  obtain ⟨a0, dx, tk', mA, w1, w2, w3, w4, w5⟩ := fl
  refine wpAny_mono (wpAny_kd (e := e) (dx := dx) (kd_leaving (.ref e) env) w2 (wpAny_leaves_onW (Q := fun _ s' => ∃ h2, s' = ({ s with heap := h2, toks := tk } : Shared) ∧ Heap.FlyingW bs outer e (.ref C) a0 h2 ∧ h'.UpToSlots h2) (Around.frames_deeper hfr) hfe w1 fun h2 x1 x2 => ⟨h2, rfl, x1, x2⟩)) ?_ fun _ _ x => x
  rintro _ s' ⟨⟨h2, rfl, l1, l2⟩, D⟩
  exact q e h2 tk ⟨a0, dx, tk', mA, l1, D, Heap.UpToSlots.ns l2 w3, w4, fun env' hm => w5 env' (.tail _ hm)⟩ ((Heap.UpToSlots.of_keeps hk).trans (u.trans l2))
end
end Gos
end

section
open PySem PySem.W PyProof.Rows
namespace Gos
open PySem

section
variable {prog : Program} {w : World} {A : Around} {E : Value → Shared → Prop} {h : Heap} {g : Array GenState} {d : Drawn} {t : Nat} {os : OsState} {a dx : Addr} {o : Obj} {vs : Array Value}
  {nm q : Str} {C N : Addr} {bs bm : List Value} {sn : List Str} {sub : List Value} {ab : Bool} {col : Option Bool} {dd : Option Addr} {k0 k1 k2 k3 k5 : Option Value} {B newId ga : String} {mN mA : Str → Option Value} {name : Str} {v : Value}

theorem check_ga (hga : ∀ x y : Value, argsOk "BaseException.__getattribute__" ⟨[x, y], []⟩) {M : Model} {nameV : Value} {Q : Unit → Shared → Prop} (hb : bm.contains (.type "BaseException") = true) (hC : h.get? C = some (excClassObj nm q C N bs bm true sn sub ab col dd k0 k1 k2 k3 k5 newId))
    (hx : h.get? a = some o) (hc : o.cls = .ref C) (hq : Q () ⟨h, g, d, t, os⟩) : wpAny M A (checkBuiltinCall "BaseException.__getattribute__" ⟨[.ref a, nameV], []⟩) Q E ⟨h, g, d, t, os⟩ := by
  have hk : builtinKind "BaseException.__getattribute__" = some .slot := by decide +kernel
  have hsplit : splitId "BaseException.__getattribute__" = some ("BaseException", "__getattribute__") := by decide +kernel
  have hcB : (Value.ref C :: bm).contains (.type "BaseException") = true := by rw [List.contains_cons, hb, Bool.or_true]
  have ha := hga (.ref a) nameV
  simp only [checkBuiltinCall, hk, hsplit]
  refine wpAny_bind ?_
  · unfold isInstance
    repeat (first | (with_reducible refine wpAny_loadPart_at hx ?_; rw [hc]) | (with_reducible refine wpAny_isSubtype_exc hC ?_; rw [hcB]) | wp_step)
    exact hq

theorem load_own (FX : ExcAttrFacts B) (hmro : mroOf (.type B) = pure bm) (hb : bm.contains (.type "BaseException") = true) (hng0 : typeLookup (.type B) "__getattr__" = pure none) (hB : typeLookup (.type B) name = pure none)
    (hC : h.get? C = some (excClassObj nm q C N bs bm true sn sub ab col dd k0 k1 k2 k3 k5 newId)) (hN : h.Ns N mN) (hng : mN "__getattribute__" = none) (hnh : mN "__getattr__" = none) (hna : mN name = none)
    (hx : h.get? a = some o) (hc : o.cls = .ref C) (hd : o.data = .fields vs) (hdict : o.dict = some dx) (hns : h.Ns dx mA) (hv : mA name = some v) (hh : handedOut v = pure v) {expr : Bool} {Q : Value → Shared → Prop} (hq : Q v ⟨h, g, d, t + 1, os⟩) :
    wpAny (model prog w) A (getAttr (.ref a) name expr) Q E ⟨h, g, d, t, os⟩ := by
  have f3 := FX.ga.bind (.ref a)
  have hx0 : (expr && onTheHeap (Value.builtin "BaseException.__getattribute__")) = false := by cases expr <;> rfl
  have hx2 : (Value.builtin "BaseException.__getattribute__" == Value.builtin "object.__getattribute__") = false := by decide +kernel
  have hx1 : (onTheHeap (Value.ref C) && Value.builtin "BaseException.__getattribute__" == Value.builtin "object.__getattribute__") = false := by rw [hx2]; rfl
  unfold getAttr getAttrBy
  repeat (any_goals (first | assumption | (with_reducible refine wpAny_loadPart_at hx ?_; rw [hc]) | (with_reducible refine wpAny_typeLookup_exc hC hN hmro FX.ga.lookup ?_; rw [hng]) | (with_reducible refine wpAny_typeLookup_exc hC hN hmro hng0 ?_; rw [hnh]) | wp_step))
  refine codeAny_call_builtin FX.ga.plain F.entry_bexc_ga (check_ga F.args_bexc_ga hb hC hx hc ?_)
  unfold Builtin.«object.__getattribute__»
  repeat (any_goals (first | assumption | (with_reducible refine wpAny_loadPart_at hx ?_; rw [hc]) | (with_reducible refine wpAny_typeLookup_exc hC hN hmro hB ?_; rw [hna]) | wp_step))
  rw [hd]
  dsimp only
  unfold instanceDict
  repeat (first | (with_reducible refine wpAny_loadPart_at hx ?_; rw [hc]) | with_reducible refine wpAny_loadPart_at hC ?_ | wp_step)
  rw [hdict]
  repeat (first | (with_reducible refine wpAny_nsGet hns ?_; rw [hv]) | wp_step)
  exact hq
end
end Gos
end

section
open PySem PySem.W PyProof.Rows
namespace Gos
open PySem

theorem ns_upto {h h' : Heap} {a : Addr} {m : Str → Option Value} (x : h.UpToSlots h') (n : h.Ns a m) : h'.Ns a m := Heap.UpToSlots.ns x n
theorem Nm.upto {W : Gl} {env : Env} {h h' : Heap} {m : Str → Option Value} (M : Nm W env h m) (x : h.UpToSlots h') : Nm W env h' m := ⟨M.k, M.g, M.b, ns_upto x M.ns⟩

theorem caught {W : Gl} {C N fI e : Addr} (H : Cas W C N fI) (B : W.Fine) {A : Around} {env : Env} {outer : List Env} {base : Heap} {s' : Shared} {m : Str → Option Value} {Q : Flow → Shared → Prop} {E : Value → Shared → Prop}
    (hfr : A.frames = some (env :: outer)) (hfe : env.frame = some env.locals) (hw : Keep W.h₀ base) (Fl : Flies base (env :: outer) C e s'.heap) (M : Nm W env s'.heap m)
    (k1 : env.kindOf "CasFail" = some .globalImplicit) (k2 : env.kindOf "wrong" = some .local) (k3 : env.kindOf "d" = some .local) {i : Int} {ti : Tok} (md : m "d" = some (.int i ti)) (hi : 201 < i)
    {np hp p1 p2 p3 p4 p5 p6 p7 p8 p9 : Pos} {c1 c2 : Nat} {rest : List ExceptHandler}
    (q : ∀ h' tk, base.StaysIn h' → Q (.ret (.bool true)) { s' with heap := h', toks := tk }) :
    wpAny (model W.prog W.w) A (noteFrame (.ref e) env) (fun _ s₂ => wpAny (model W.prog W.w) A (setFlight (.ref e) none) (fun _ s₃ => wpAny (model W.prog W.w) A (handleBy (.ref e) env
      (.ExceptHandler (some (.Name "CasFail" np)) (some "wrong") [.Return (some (.BoolOp .And [.Compare (.Name "d" p1) [.Gt] [.Constant (.int 201) c1 p2] p3, .Compare (.Attribute (.Name "wrong" p4) "kind" p5) [.Eq] [.Constant (.str "limit") c2 p6] p7] p8)) p9] hp :: rest)) Q E s₃) E s₂) E s' := by
  obtain ⟨a0, dx, tk0, mA, w1, w2, w3, w4, w5⟩ := Fl
  obtain ⟨nm, qq, bs, sn, sub, ab, col, dd, c0, c1', c2', c3, c5, hC⟩ := H.cls
  obtain ⟨mN, n0, n1, n2, n3, n4, n5, n6⟩ := H.ns
  have hL : base.get? env.locals = none := by
    obtain ⟨_, ⟨L', o, hf, hn, ho, hd⟩, _⟩ := w1.2.2.1
    rw [hfe] at hf; cases hf; exact hn
  refine wpAny_mono (wpAny_kd (kd_noteFrame (.ref e) env) w2 (wpAny_looks_onW (Q := fun _ s1 => ∃ h4, s1 = ({ s' with heap := h4 } : Shared) ∧ Heap.HeldW base (env :: outer) e (.ref C) a0 env.locals h4 ∧ s'.heap.UpToSlots h4) hfr hfe w1 fun h4 x1 x2 => ⟨h4, rfl, x1, x2⟩)) ?_ (fun _ _ x => x)
  rintro _ s1 ⟨⟨h4, rfl, x1, x2⟩, D4⟩
  refine wpAny_mono (wpAny_kd (kd_setFlight (.ref e) none) D4 (wpAny_landsW (Q := fun _ s1 => ∃ h5, s1 = ({ s' with heap := h5 } : Shared) ∧ Heap.FlyingW base (env :: outer) e (.ref C) a0 h5 ∧ h4.UpToSlots h5) x1 fun h5 y1 y2 => ⟨h5, rfl, y1, y2⟩)) ?_ (fun _ _ x => x)
  rintro _ s2 ⟨⟨h5, rfl, y1, y2⟩, D5⟩
  have u5 := x2.trans y2
  have b5 : Keep W.h₀ h5 := fun b o x => y1.1 b o (hw b o x)
  have M5 := M.upto u5
  obtain ⟨oe, hoe, hde⟩ := D5
  obtain ⟨ob, hob, hobc⟩ := y1.there
  rw [hob] at hoe; cases hoe
  refine wpAny_handleBy_cons (codeAny_handlers_test (Calls.Name_function_global M.k k1 (Calls.loadGlobal_global (by rw [M.g]; exact B.g.keeps b5) H.mg ?_))) (by intro q; cases q)
  refine wpAny_excMatches_sub_self (b5 _ _ hC) hob hobc (by decide +kernel) (codeAny_handlers_suite_as ?_)
  refine wpAny_mono (wpAny_kd (kd_setFlight (.ref e) none) ⟨_, hob, hde⟩ (lands_againW (Q := fun _ s1 => ∃ h6, s1 = ({ s' with heap := h6 } : Shared) ∧ Heap.FlyingW base (env :: outer) e (.ref C) a0 h6 ∧ h5.UpToSlots h6) y1 fun h6 z1 z2 => ⟨h6, rfl, z1, z2⟩)) ?_ (fun _ _ x => x)
  rintro _ s3 ⟨⟨h6, rfl, z1, z2⟩, D6⟩
  have u6 := u5.trans z2
  have b6 : Keep W.h₀ h6 := fun b o x => z1.1 b o (hw b o x)
  have M6 := M.upto u6
  have hp0 : (env.scope.kind == .class || (env.scope.kind == .module && env.locals != env.globals)) = false := by rw [M.k]; rfl
  refine wpAny_storeName_local k2 M6.ns (fun h7 hn7 hs7 => ?_) hp0
  have hLW : W.h₀.get? env.locals = none := by
    cases z : W.h₀.get? env.locals with
    | none => rfl
    | some o => have := hw _ _ z; rw [hL] at this; cases this
  have b7 : Keep W.h₀ h7 := fun b o x => (hs7.2 b fun y => by rw [y, hLW] at x; cases x).trans (b6 b o x)
  have s7 : base.StaysIn h7 := fun b o x => (hs7.2 b fun y => by rw [y, hL] at x; cases x).trans (z1.1 b o x)
  have M7 : Nm W env h7 (fun y => if y = ("wrong" : Str) then some (.ref e) else m y) := ⟨M.k, M.g, M.b, hn7⟩
  obtain ⟨o6, hoe6, hde6⟩ := D6
  obtain ⟨oe, vs, g1, g2, g3, g4⟩ := z1.first
  rw [hoe6] at g1; cases g1
  have heL : e ≠ env.locals := fun x => by
    obtain ⟨oL, es, ep, q1, q2, _⟩ := M6.ns
    rw [← x, hoe6] at q1; cases q1
    rw [g3] at q2; cases q2
  have hdx6 := ns_upto u6 w3
  have hdL : dx ≠ env.locals := fun x => w5 env (.head _) (by rw [hfe, x])
  have hdx7 : h7.Ns dx mA := by
    obtain ⟨o, es, ep, q1, q2⟩ := hdx6
    exact ⟨o, es, ep, (hs7.2 _ hdL).trans q1, q2⟩
  have hoe7 : h7.get? e = some o6 := (hs7.2 _ heL).trans hoe6
  refine wpAny_execs_cons (wpAny_Return_some (wpAny_And2 (wpAny_Compare1 (nm_loc (s := { s' with heap := h7, toks := s'.toks + 1 }) M7 k3 (show (if ("d" : Str) = ("wrong" : Str) then _ else m "d") = some (Value.int i ti) by rw [if_neg (by decide)]; exact md) (wpAny_Constant_int (PyProof.Rows.gt_int ?_))) (by rfl))))
  rw [decide_eq_true hi]
  refine wpAny_truthy_bool ?_
  rw [if_pos rfl]
  refine wpAny_Compare1 (PyProof.Rows.Attribute_any_ (nm_loc M7 k2 (by rw [if_pos rfl]) ?_)) (by rfl)
  refine load_own PySem.F.attr_Exception PySem.F.excBase_Exception.mroIs (by decide +kernel) PySem.F.attrBase_Exception.noGetattr lk_kind (b7 _ _ hC) (n0.keeps b7) n5 n6 n3 hoe7 g2 g3 hde6 hdx7 w4 (by rfl) ?_
  refine Calls.Constant_str (PyProof.Rows.eq_str ?_)
  rw [show (("limit" : Str) == ("limit" : Str)) = true from beq_self_eq_true _]
  refine wpAny_nameGoes k2 M7.ns hp0 fun h8 m8 hn8 hs8 => ?_
  exact q h8 _ fun b o x => (hs8.2 b fun y => by rw [y, hL] at x; cases x).trans (s7 b o x)
end Gos
end

section
open PySem PySem.W PyProof.Rows
set_option maxHeartbeats 2000000
namespace Gos
open PySem

theorem Has.cas {W : Gl} (H : Has W) : Cas W 31 30 28 where
  mg := H.val 0 rfl rfl
  cls := ⟨_, _, _, _, _, _, _, _, _, _, _, _, _, (H.obj (a := 31) 3 rfl rfl).trans (by rfl)⟩
  ns := ⟨_, ⟨_, _, _, H.obj (a := 30) 2 rfl rfl, rfl, fun e he => by
    simp only [List.mem_toArray, List.mem_cons, List.not_mem_nil, or_false] at he
    rcases he with rfl | rfl | rfl | rfl | rfl | rfl <;> exact ⟨_, _, rfl⟩, fun _ => rfl⟩, by kernel_rfl, by kernel_rfl, by kernel_rfl, by kernel_rfl, by kernel_rfl, by kernel_rfl⟩
theorem Has.init {W : Gl} (H : Has W) : InitFn W 28 where
  ex := ⟨_, _, _, _, _, _, _, _, _, _, _, _, _, _, _, _, _, _, _, _, _, H.obj (a := 28) 1 rfl rfl, rfl, rfl, by rfl, rfl, rfl, rfl, ⟨27, _, _, _, rfl, H.obj (a := 27) 0 rfl rfl, rfl, by rfl⟩, fun _ _ _ => by rfl, by rfl, by rfl, by rfl, by rfl, by rfl, by rfl, by rfl,
    fun env e => ⟨by unfold interactive; rw [e]; rfl, by rfl, by rfl, by rfl, _, rfl⟩⟩
end Gos
end

section
open PySem PySem.W PyProof.Rows
set_option maxHeartbeats 4000000
namespace Gos
open PySem

noncomputable def xWords : Str := "a sum whose certificate has a degree above " ++ Str.ofString (toString (200 : Int))
theorem xLen : (Str.ofString "a sum whose certificate has a degree above ").length + (Str.ofString (toString (200 : Int))).length ≤ 1000 := by decide +kernel
noncomputable def p_partedX : { g : List S → Bool // ∀ W : Gl, Has W → DenSX W 31 29 L_parted G_parted (fB (stAt 123)) g } := ⟨_, fun W H =>
    DenSX.next (DenO.tupS (k := 8) (names := ["a", "b", "c"]) (Names.cons 2 rfl (by decide) (by decide) (Names.cons 3 rfl (by decide) (by decide) (Names.cons 4 rfl (by decide) (by decide) Names.nil))) (DenIts.consE (DenE.var 0) (DenIts.consE (DenE.var 1) (DenIts.consE (DenE.fresh (DenF.list (DenA.cons (DenE.glob H.toOk (K_R1 H)) DenA.nil))) DenIts.nil))))
    (DenSX.here (DenFX.for (k := 8) (DenI.seq (DenE.call H.toOk (C_dispersions H) (DenA.cons (DenE.idx (DenE.call H.toOk (C_to_z H) (DenA.cons (DenE.var 2) DenA.nil)) (DenE.int _)) (DenA.cons (DenE.idx (DenE.call H.toOk (C_to_z H) (DenA.cons (DenE.var 3) DenA.nil)) (DenE.int _)) DenA.nil)))) (DenTg.name 5)
      (DenPX.next (DenO.assign 6 (DenE.call H.toOk (C_qgcd H) (DenA.cons (DenE.var 2) (DenA.cons (DenE.call H.toOk (C_moved H) (DenA.cons (DenE.var 3) (DenA.cons (DenE.var 5) DenA.nil))) DenA.nil))))
      (DenPX.here (DenX.if (DenT.cmp sem_gt (DenE.bin sem_mul (DenE.var 5) (DenE.call H.toOk (C_qdegree H) (DenA.cons (DenE.var 6) DenA.nil))) (DenE.glob H.toOk (K_MOST_DEGREE H)))
        (DenPX.here (DenX.raise H.cas H.init H.toFine H.noExc (DenA.cons (DenE.str "limit") (DenA.cons (DenE.catStr H.toFine (K_MOST_DEGREE H) (by decide) xLen (by decide +kernel) (by decide +kernel)) DenA.nil)) (by rw [Str.length_append]; exact xLen) (by decide +kernel) rfl rfl)))))))⟩
noncomputable def R_parted : List D → Bool := fun ds => Nat.beq ds.length 2 && p_partedX.1 (start ds 6)
theorem X_parted {W : Gl} (H : Has W) : RaisesC W 31 "parted" 30 R_parted := RaisesC.of H.toFine 6 (at_parted H) (FnS.of (by decide +kernel)) (p_partedX.2 W H)
end Gos
end

section
open PySem PySem.W PyProof.Rows
set_option maxHeartbeats 4000000
namespace Gos
open PySem

noncomputable def argX (F : List D → Bool) : Option (List D) → Bool
  | some ds => F ds
  | none => false
theorem argX_some {F : List D → Bool} {o : Option (List D)} (h : argX F o = true) : ∃ ds, o = some ds ∧ F ds = true := by
  cases o with
  | none => cases h
  | some ds => exact ⟨ds, rfl, h⟩
section
variable {W : Gl} {C : Addr} {n : Nat} {Γ : Lay} {G : List Str}
theorem raise_tup {x : Str} {r x1 : Nat} {F : List D → Bool} {e : Expr} {es ts : List Expr} {fs : List S → Option (List D)} {p p0 cp pos : Pos} (B : W.Ok) (K : RaisesC W C x r F) (ha : DenA W n Γ G (e :: es) fs) (hx : x ∈ G) (hr : r + 1 ≤ n) (hst : isStarred e = false)
    (ht : ∀ env, swappedStores [.Tuple ts x1 p0] (.Call (.Name x p) (e :: es) [] cp) env = pure none) (hs : ∀ env, swapsWithSole [.Tuple ts x1 p0] (.Call (.Name x p) (e :: es) [] cp) pos.line env = pure false)
    {A : Around} {env : Env} {s : Shared} {M : Addr → Prop} {ρ : List S} {oa : Nat → Addr} {Q : Flow → Shared → Prop} {E : Value → Shared → Prop} {base : Heap} {outer : List Env}
    (P : Pre W n Γ G A env s M ρ oa) (h : argX F (fs ρ) = true) (hfr : A.frames = some outer) (hbs : base.StaysIn s.heap) (hff : s.heap.FunFrames base outer)
    (q : ∀ e h' tk, Flies base outer C e h' → s.heap.UpToSlots h' → E (.ref e) { s with heap := h', toks := tk }) : wpAny (model W.prog W.w) A (exec (.Assign [.Tuple ts x1 p0] (.Call (.Name x p) (e :: es) [] cp) pos) env) Q E s := by
  obtain ⟨ds, h1, h2⟩ := argX_some h
  exact Assign_Tuple (RaisesC.call B K ha P h1 h2 hfr hbs hff q hx hr hst) (hs env) (ht env)
end
noncomputable def p_gosX : { g : List S → Bool // ∀ W : Gl, Has W → RaisesC W 31 "gosper" 32 (fun ds => Nat.beq ds.length 1 && g (start ds 5)) } := ⟨_, fun W H =>
  RaisesC.pass (n := 31) (Γ := L_gosper) (G := G_gosper) H.toFine 5 (at_gosper H) (FnS.of (by decide +kernel)) (fun A env s M ρ oa Q E base outer P h hfr hbs hff q =>
    raise_tup H.toOk (X_parted H) (DenA.cons (DenE.idx (DenE.var 0) (DenE.int _)) (DenA.cons (DenE.idx (DenE.var 0) (DenE.int _)) DenA.nil)) (by decide +kernel) (by decide) rfl (by intro _; rfl) (by intro _; rfl) P h hfr hbs hff q)⟩
noncomputable def R_gosper : List D → Bool := fun ds => Nat.beq ds.length 1 && p_gosX.1 (start ds 5)
theorem X_gosper {W : Gl} (H : Has W) : RaisesC W 31 "gosper" 32 R_gosper := p_gosX.2 W H

theorem at_law {W : Gl} (H : Has W) : FnAt W "law" ["script"] (fB (stAt 134)) (fS (stAt 134)) :=
  fnAt_i H 107 134 (by decide +kernel) (by kernel_rfl) (by kernel_rfl) (by kernel_rfl) (by kernel_rfl) (fun _ _ _ => b1 fun _ => by kernel_rfl)

noncomputable def isTrue : Option D → Bool
  | some (.tuple [a, b]) => true
  | _ => false
noncomputable def p_tryX : { f : List S → Option (List D) // ∀ W : Gl, Has W → ∀ A env s M ρ oa Q E base outer, Pre W 33 L_law G_law A env s M ρ oa → argX R_gosper (f ρ) = true → A.frames = some (env :: outer) → base.StaysIn s.heap → s.heap.FunFrames base (env :: outer) → Keep W.h₀ base →
    env.frame = some env.locals → env.kindOf "CasFail" = some .globalImplicit → env.kindOf "wrong" = some .local → (∃ i, sget ρ 3 = .fr (.int i) ∧ 201 < i) →
    (∀ h' tk, base.StaysIn h' → Q (.ret (.bool true)) { s with heap := h', toks := tk }) → wpAny (model W.prog W.w) A (execs ((fB (stAt 134)).drop 3) env) Q E s } := ⟨_, fun W H A env s M ρ oa Q E base outer P h hfr hbs hff hw hfe k1 k2 hd q => by
  obtain ⟨ds, h1, h2⟩ := argX_some h
  obtain ⟨i, hd, hi⟩ := hd
  have k3 : env.kindOf "d" = some .local := P.es.loc 3 "d" rfl
  have hv := P.env.loc 3 "d" rfl
  rw [hd] at hv
  obtain ⟨v, hv, rv⟩ := hv
  cases rv with
  | int _ ti =>
  have M0 : Nm W env s.heap (s.heap.nsMap env.locals) := ⟨P.es.kind, P.es.glob, P.es.blt, P.env.ns⟩
  refine wpAny_execs_cons (wpAny_Try_except (wpAny_execs_cons (wpAny_Assign_Name (RaisesC.call (n := 33) (Γ := L_law) (G := G_law) H.toOk (X_gosper H) (DenA.cons (DenE.tup (DenA.cons (DenE.var 4) (DenA.cons (DenE.var 5) DenA.nil))) DenA.nil) P h1 h2 hfr hbs hff (fun e h' tk fl u => ?_) (by decide +kernel) (by decide) rfl) (by rfl))))
  exact caught (s' := { s with heap := h', toks := tk }) H.cas H.toFine hfr hfe hw fl (M0.upto u) k1 k2 k3 hv hi fun h'' tk' st => q h'' tk' st⟩
end Gos
end

section
open PySem PySem.W PyProof.Rows
set_option maxHeartbeats 2000000
namespace Gos
open PySem
theorem clip6 (n : Nat) : clipAt n 6 = min 6 n := by
  unfold clipAt
  rw [if_neg (by decide)]
  omega
noncomputable def postT (L : D) (k : Int) : Option D → Option (D × List D)
  | some d => some (d, [L, .int k])
  | none => none
theorem tk_g0 (L : List D) (m : Int) : p_law_take.1.1 (.own (.lst [.list L, .int 0]) :: start [.int m] 0) = some [.own (.lst [.list L, .int 1]), .fr (.int m)] := by rfl
theorem tk_g1 (L : List D) (m : Int) : p_law_take.1.1 (.own (.lst [.list L, .int 1]) :: start [.int m] 0) = some [.own (.lst [.list L, .int 2]), .fr (.int m)] := by rfl
theorem tk_t0 (L : List D) (m : Int) : p_law_take.1.2.1 [.own (.lst [.list L, .int 1]), .fr (.int m)] = bind2 cle (some (.int 1)) (flen [.list L]) := by rfl
theorem tk_t1 (L : List D) (m : Int) : p_law_take.1.2.1 [.own (.lst [.list L, .int 2]), .fr (.int m)] = bind2 cle (some (.int 2)) (flen [.list L]) := by rfl
theorem tk_a0 (L : List D) (m : Int) : p_law_take.1.2.2.1 [.own (.lst [.list L, .int 1]), .fr (.int m)] = bind2 dmod (bind1 fabs (bind2 consD (didx (.list L) (.int 0)) (some []))) (some (.int m)) := by rfl
theorem tk_a1 (L : List D) (m : Int) : p_law_take.1.2.2.1 [.own (.lst [.list L, .int 2]), .fr (.int m)] = bind2 dmod (bind1 fabs (bind2 consD (didx (.list L) (.int 1)) (some []))) (some (.int m)) := by rfl
theorem tk_b0 (L : List D) (m : Int) : p_law_take.1.2.2.2 [.own (.lst [.list L, .int 1]), .fr (.int m)] = dmod (.int 5) (.int m) := by rfl
theorem tk_b1 (L : List D) (m : Int) : p_law_take.1.2.2.2 [.own (.lst [.list L, .int 2]), .fr (.int m)] = dmod (.int 10) (.int m) := by rfl
theorem runIR_eq {g : List S → Option (List S)} {f : List S → Option D} {k m : Nat} {xs ds : List D} {ρ' : List S} {L : D} {j : Int} (h0 : Nat.beq ds.length k = true) (h1 : g (.own (.lst xs) :: start ds m) = some ρ') (h2 : sget ρ' 0 = .own (.lst [L, .int j])) :
    runIR g f k m xs ds = postT L j (f ρ') := by
  unfold runIR
  rw [if_pos h0, h1]
  show (match sget ρ' 0, f ρ' with | .own (.lst ys), some d => some (d, ys) | _, _ => none) = _
  rw [h2]
  cases f ρ' <;> rfl
theorem take0 (L : List D) (m : Int) : F_law_take [.list L, .int 0] [.int m] = postT (.list L) 1 (ite1 (bind2 cle (some (.int 1)) (flen [.list L])) (bind2 dmod (bind1 fabs (bind2 consD (didx (.list L) (.int 0)) (some []))) (some (.int m))) (dmod (.int 5) (.int m))) := by
  refine (runIR_eq rfl (tk_g0 L m) rfl).trans ?_
  rw [tk_t0, tk_a0, tk_b0]
theorem take1 (L : List D) (m : Int) : F_law_take [.list L, .int 1] [.int m] = postT (.list L) 2 (ite1 (bind2 cle (some (.int 2)) (flen [.list L])) (bind2 dmod (bind1 fabs (bind2 consD (didx (.list L) (.int 1)) (some []))) (some (.int m))) (dmod (.int 10) (.int m))) := by
  refine (runIR_eq rfl (tk_g1 L m) rfl).trans ?_
  rw [tk_t1, tk_a1, tk_b1]
theorem l1_eq (xs : List D) (h : small xs = true) (h2 : small (xs.take 6) = true) : p_l1.1 (start [.list xs] 12) = some (.next [.fr (.list xs), .own (.lst [.list (xs.take 6), .int 0]), .unb, .unb, .unb, .unb, .unb, .unb, .unb, .unb, .unb, .unb, .unb]) := by
  have hm : xs.take (min 6 xs.length) = xs.take 6 := by
    rw [List.take_eq_take_iff]; omega
  simp only [p_l1, start, List.map, List.replicate, bind1_s, bind2_s, consD, evar, sget_z, sget_s, dsub2, h, clipI, if_true, clip6, List.drop_zero, Nat.sub_zero, List.cons_append, List.nil_append, elst, flist, hm, h2, elist]
  rfl
theorem pick_in (L : List D) (i : Nat) (x m : Int) (z : Option D) (h : small L = true) (hm : ieq m 0 = false) (hi : i < 1000) (hl : L[i]? = some (.int x)) :
    ite1 (bind2 cle (some (.int (i + 1))) (flen [.list L])) (bind2 dmod (bind1 fabs (bind2 consD (didx (.list L) (.int i)) (some []))) (some (.int m))) z = some (.int (Int.fmod (x.natAbs : Int) m)) := by
  have hlen : i < L.length := by
    rcases Nat.lt_or_ge i L.length with h' | h'
    · exact h'
    · rw [List.getElem?_eq_none h'] at hl; cases hl
  have hb : ilt (L.length : Int) (i + 1 : Int) = false := by rw [ilt_eq, decide_eq_false_iff_not]; omega
  have hk : Nat.blt i 1000000 = true := Nat.ble_eq_true_of_le (by omega)
  have hn : nthI L (i : Int) = some (.int x) := by
    rw [show (i : Int) = Int.ofNat i from rfl, nthI_o, if_pos hk, hl]
  simp only [flen, h, if_true, bind2_s, cle, hb, Bool.not_false, ite1, didx, hn, consD, bind1_s, fabs, dmod, hm, Bool.not_false, fI_eq]
theorem pick_out (L : List D) (i : Nat) (y z : Option D) (h : small L = true) (hl : L[i]? = none) : ite1 (bind2 cle (some (.int (i + 1))) (flen [.list L])) y z = z := by
  have hlen : L.length ≤ i := List.getElem?_eq_none_iff.mp hl
  have hb : ilt (L.length : Int) (i + 1 : Int) = true := by rw [ilt_eq, decide_eq_true_iff]; omega
  simp only [flen, h, if_true, bind2_s, cle, hb, Bool.not_true, ite1]
theorem mod_in (x m : Int) (h : 0 < m) : ∃ c : Nat, (c : Int) < m ∧ Int.fmod (x.natAbs : Int) m = c := by
  have h1 := Int.fmod_nonneg_of_pos (x.natAbs : Int) h
  have h2 := Int.fmod_lt_of_pos (x.natAbs : Int) h
  exact ⟨(Int.fmod (x.natAbs : Int) m).toNat, by omega, by omega⟩
/-- what the law takes is one of the numbers below m -/
theorem take0_ex (L : List D) (hs : small L = true) (hL : ∀ d ∈ L, ∃ x, d = .int x) : ∃ c : Nat, c < 4 ∧ F_law_take [.list L, .int 0] [.int 4] = some (.int c, [.list L, .int 1]) := by
  rw [take0]
  cases hl : L[0]? with
  | none => exact ⟨1, by decide, (congrArg (postT _ _) (pick_out L 0 _ _ hs hl)).trans rfl⟩
  | some d =>
    obtain ⟨x, rfl⟩ := hL d (List.mem_of_getElem? hl)
    obtain ⟨c, h1, h2⟩ := mod_in x 4 (by decide)
    exact ⟨c, by omega, (congrArg (postT _ _) (pick_in L 0 x 4 _ hs rfl (by decide) hl)).trans (by rw [h2]; rfl)⟩
theorem take1_ex (L : List D) (hs : small L = true) (hL : ∀ d ∈ L, ∃ x, d = .int x) : ∃ c : Nat, c < 6 ∧ F_law_take [.list L, .int 1] [.int 6] = some (.int c, [.list L, .int 2]) := by
  rw [take1]
  cases hl : L[1]? with
  | none => exact ⟨4, by decide, (congrArg (postT _ _) (pick_out L 1 _ _ hs hl)).trans rfl⟩
  | some d =>
    obtain ⟨x, rfl⟩ := hL d (List.mem_of_getElem? hl)
    obtain ⟨c, h1, h2⟩ := mod_in x 6 (by decide)
    exact ⟨c, by omega, (congrArg (postT _ _) (pick_in L 1 x 6 _ hs rfl (by decide) hl)).trans (by rw [h2]; rfl)⟩
noncomputable def dsL : List Int := [1000003, 3, 202, 1, 2, 5003]
theorem l2_eq (X : D) (L : List D) (c e : Nat) (k : Int) (d : D) (h1 : F_law_take [.list L, .int 0] [.int 4] = some (.int c, [.list L, .int 1])) (h2 : F_law_take [.list L, .int 1] [.int 6] = some (.int e, [.list L, .int k])) (h3 : didxO (dsL.map .int) (.int e) = some d) :
    p_l2.1 [.fr X, .own (.lst [.list L, .int 0]), .unb, .unb, .unb, .unb, .unb, .unb, .unb, .unb, .unb, .unb, .unb] = some (.next [.fr X, .own (.lst [.list L, .int k]), .fr (.int c), .fr d, .unb, .unb, .unb, .unb, .unb, .unb, .unb, .unb, .unb]) := by
  have e0 : p_l2.1 [.fr X, .own (.lst [.list L, .int 0]), .unb, .unb, .unb, .unb, .unb, .unb, .unb, .unb, .unb, .unb, .unb] = nextR (law2F 1 [3, 2] F_law_take (fun _ => some [.int 4]) (fun _ => some (dsL.map .int)) (fun _ => some [.int 6]) [.fr X, .own (.lst [.list L, .int 0]), .unb, .unb, .unb, .unb, .unb, .unb, .unb, .unb, .unb, .unb, .unb]) := by rfl
  rw [e0]
  simp only [law2F, eown, sget_z, sget_s, h1, sset_z, sset_s, h2, h3]
  rfl
end Gos
end

section
open PySem PySem.W PyProof.Rows
set_option maxHeartbeats 4000000
namespace Gos
open PySem

noncomputable def isTrueRet : Option Fl → Bool
  | some (.ret (.bool true)) => true
  | _ => false
theorem isTrueRet_some {o : Option Fl} (h : isTrueRet o = true) : o = some (.ret (.bool true)) := by
  unfold isTrueRet at h
  split at h
  · rfl
  · cases h
noncomputable def slotInt : S → Int → Bool
  | .fr (.int i), j => ieq i j
  | _, _ => false
noncomputable def restR (ρ : List S) (d : Int) : Bool := slotInt (sget ρ 3) d && argX R_gosper (p_tryX.1 ρ)
noncomputable def restN (ρ : List S) : Bool := isTrueRet (p_law.1 ρ)
noncomputable def restOk (ρ : List S) (d : Int) : Bool := if ilt 201 d then restR ρ d else restN ρ
noncomputable def sl (s d : Int) : List S := [.unb, .unb, .fr (.int s), .fr (.int d), .unb, .unb, .unb, .unb, .unb, .unb, .unb, .unb, .unb]
noncomputable def endOk (s d : Int) : Bool := match p_l3.1 (sl s d) with
  | some (.next ρ) => restOk ρ d
  | _ => false

theorem St.drop {Γ : Lay} {env : Env} {hb : PH} {M₀ M : Addr → Prop} {ρ ρ' : List S} {h : Heap} {oa : Nat → Addr} (t : St Γ env hb M₀ ρ h M oa) (k : ∀ i, sget ρ' i = sget ρ i ∨ sget ρ' i = .unb) : St Γ env hb M₀ ρ' h M oa := by
  have own : ∀ i p, sget ρ' i = .own p → sget ρ i = .own p := fun i p e => by
    rcases k i with h | h
    · rw [← h]; exact e
    · rw [h] at e; cases e
  refine ⟨⟨t.env.ns, t.env.ML, t.env.dom, fun i x e => ?_, fun i x e => ?_, fun i j p q e1 e2 => t.env.apart i j p q (own i p e1) (own j q e2), fun i p e => t.env.own i p (own i p e), fun i p e => t.env.oL i p (own i p e)⟩, t.kb, t.sub, t.new, fun i p e => t.oF i p (own i p e)⟩
  · rcases k i with h | h
    · rw [h]; exact t.env.loc i x e
    · rw [h]; trivial
  · obtain ⟨c, ov, h1, h2, h3, h4⟩ := t.env.cel i x e
    refine ⟨c, ov, h1, h2, h3, ?_⟩
    rcases k i with h | h
    · rw [h]; exact h4
    · rw [h]; trivial

theorem law_rest {W : Gl} (H : Has W) {A : Around} {env : Env} {s : Shared} {base : Heap} {M₀ M : Addr → Prop} {ρ : List S} {oa : Nat → Addr} {d : Int} {Q : Flow → Shared → Prop} {E : Value → Shared → Prop} (cx : Cx W 33 L_law G_law A env ⟨base.get?⟩ M₀) (t : St L_law env ⟨base.get?⟩ M₀ ρ s.heap M oa)
    (h : restOk ρ d = true) (hfr : A.frames = some [env]) (hff : s.heap.FunFrames base [env]) (hfe : env.frame = some env.locals) (k1 : env.kindOf "CasFail" = some .globalImplicit) (k2 : env.kindOf "wrong" = some .local)
    (q : ∀ h' tk, base.StaysIn h' → Q (.ret (.bool true)) { s with heap := h', toks := tk }) : wpAny (model W.prog W.w) A (execs ((fB (stAt 134)).drop 3) env) Q E s := by
  unfold restOk at h
  split at h
  · rename_i hd
    obtain ⟨h1, h2⟩ := Bool.and_eq_true_iff.mp h
    refine p_tryX.2 W H A env s M ρ oa Q E base [] (cx.pre t) h2 hfr (fun b o e => t.kb b o e) hff (fun b o e => cx.h0 b o e) hfe k1 k2 ⟨d, ?_, ?_⟩ q
    · unfold slotInt at h1
      split at h1
      · rename_i i hs
        rw [ieq_eq, decide_eq_true_iff] at h1
        rw [hs, h1]
      · cases h1
    · rw [ilt_eq, decide_eq_true_iff] at hd; exact hd
  · refine (p_law.2 W H).h A env s ⟨base.get?⟩ M₀ M ρ oa (.ret (.bool true)) Q E cx t (isTrueRet_some h) ?_
    intro v h' tk k r
    cases r
    exact q h' tk k

noncomputable def dAt (e : Nat) : Int := (dsL[e]?).getD 0
theorem law_end (c e : Nat) (hc : c < 4) (he : e < 6) (all : ∀ c : Nat, c < 4 → ∀ e : Nat, e < 6 → endOk c (dAt e) = true) {W : Gl} (H : Has W) {A : Around} {env : Env} {s : Shared} {base : Heap} {M₀ M : Addr → Prop} {ρ : List S} {oa : Nat → Addr} {Q : Flow → Shared → Prop} {E : Value → Shared → Prop} (cx : Cx W 33 L_law G_law A env ⟨base.get?⟩ M₀) (t : St L_law env ⟨base.get?⟩ M₀ ρ s.heap M oa)
    (hr : ∃ x y, ρ = [x, y, .fr (.int c), .fr (.int (dAt e)), .unb, .unb, .unb, .unb, .unb, .unb, .unb, .unb, .unb]) (hfr : A.frames = some [env]) (hL : base.get? env.locals = none) (hfe : env.frame = some env.locals) (k1 : env.kindOf "CasFail" = some .globalImplicit) (k2 : env.kindOf "wrong" = some .local)
    (q : ∀ h' tk, base.StaysIn h' → Q (.ret (.bool true)) { s with heap := h', toks := tk }) : wpAny (model W.prog W.w) A (execs (lawSt 2 :: (fB (stAt 134)).drop 3) env) Q E s := by
  have ok := all c hc e he
  obtain ⟨x, y, rfl⟩ := hr
  have t1 : St L_law env ⟨base.get?⟩ M₀ (sl c (dAt e)) s.heap M oa := t.drop fun i => by
    match i with
    | 0 => exact .inr rfl
    | 1 => exact .inr rfl
    | n + 2 => exact .inl rfl
  unfold endOk at ok
  split at ok
  · rename_i ρ3 h3
    refine wpAny_execs_cons (p_l3.2 W H A env s ⟨base.get?⟩ M₀ M _ oa _ _ _ cx t1 h3 fun h' tk M' oa' st t2 => ?_)
    have hff : h'.FunFrames base [env] := by
      obtain ⟨o, es, ep, g1, g2, _⟩ := t2.env.ns
      exact ⟨by rw [cx.es.kind]; simp, ⟨env.locals, o, hfe, hL, g1, fun vs x => by rw [g2] at x; cases x⟩, trivial⟩
    exact law_rest H (s := { s with heap := h', toks := tk }) cx t2 ok hfr hff hfe k1 k2 q
  · cases ok

theorem law_call {W : Gl} (H : Has W) (all : ∀ c : Nat, c < 4 → ∀ e : Nat, e < 6 → endOk c (dAt e) = true) {A : Around} {s : Shared} (ok : Ok 34 A) (hfr : A.frames = some []) (hs : Keep W.h₀ s.heap) {fa L : Addr} (hm : W.mg "law" = some (.ref fa)) {ns : List Int}
    (r : Rel s.heap (fun _ => False) (.ref L) (.list (ns.map .int))) (hn : ns.length ≤ 63) {Q : Value → Shared → Prop} {E : Value → Shared → Prop} (q : ∀ h' tk, s.heap.StaysIn h' → Q (.bool true) { s with heap := h', toks := tk }) : wpAny (model W.prog W.w) A (call (.ref fa) [.ref L]) Q E s := by
  obtain ⟨a, o, fd, f1, f2, f3, f4, f5, f6, f7, f8, f9, f10⟩ := (at_law H).ex
  rw [hm] at f1
  cases f1
  refine wpAny_call (fn_enter (n := 33) (Γ := L_law) (G := G_law) H.toFine 12 (FnS.of (by decide +kernel)) f2 f3 f4 f5 f6 f7 f8 f9 f10 ok hs (fun _ h => h.elim) (fun _ h => h.elim) (.cons r .nil) rfl fun env h1 tk1 M1 hfe hloc cx st => ?_)
  have hL : s.heap.get? env.locals = none := by rw [hloc]; exact get_size _
  have sm : ∀ l : List Int, l.length ≤ 63 → small (l.map PyData.int) = true := fun l h => Nat.ble_eq_true_of_le (by rw [lenL_eq, List.length_map]; omega)
  have s1 : small (ns.map PyData.int) = true := sm ns hn
  have s2 : small ((ns.map PyData.int).take 6) = true := by rw [← List.map_take]; exact sm _ (by rw [List.length_take]; omega)
  have hi : ∀ d ∈ (ns.map PyData.int).take 6, ∃ x, d = PyData.int x := fun d hd => by
    obtain ⟨x, _, e⟩ := List.mem_map.mp (List.mem_of_mem_take hd)
    exact ⟨x, e.symm⟩
  obtain ⟨c, hc, e1⟩ := take0_ex _ s2 hi
  obtain ⟨e, he, e2⟩ := take1_ex _ s2 hi
  have e3 : didxO (dsL.map PyData.int) (.int (e : Int)) = some (.int (dAt e)) := by
    match e, he with
    | 0, _ => rfl
    | 1, _ => rfl
    | 2, _ => rfl
    | 3, _ => rfl
    | 4, _ => rfl
    | 5, _ => rfl
  rw [law_body]
  refine wpAny_execs_cons (p_l1.2 W H _ env { s with heap := h1, toks := tk1 } _ _ _ _ _ _ _ _ cx st (l1_eq _ s1 s2) fun h2 tk2 M2 oa2 st2 t2 => ?_)
  refine wpAny_execs_cons (p_l2.2 W H _ env { s with heap := h2, toks := tk2 } _ _ _ _ _ _ _ _ cx t2 (l2_eq _ _ c e 2 _ e1 e2 e3) fun h3 tk3 M3 oa3 st3 t3 => ?_)
  exact law_end c e hc he all H (s := { s with heap := h3, toks := tk3 }) (base := s.heap) cx t3 ⟨_, _, rfl⟩ (Around.frames_deeper hfr) hL hfe (cx.es.gl _ (by decide +kernel)) (cx.es.loc 12 _ rfl) fun h' tk k => q h' tk k

theorem rel_ints {P : Params} {h : Heap} : ∀ {ns : List Int} {vs : List Value}, WellAll P h vs (ofPys (ns.map .int)) → RelAll h (fun _ => False) vs (ns.map .int)
  | [], _, x => by cases x; exact .nil
  | n :: ns, _, x => by
    cases x with
    | cons a b =>
      cases a
      exact .cons (.int _ _) (rel_ints b)
theorem rel_of_well {P : Params} {h : Heap} {a : Addr} {ns : List Int} (x : Well P h (.ref a) (ofPy (PyData.list (ns.map .int)))) : Rel h (fun _ => False) (.ref a) (.list (ns.map .int)) := by
  cases x with
  | list g ws => exact .lst (fun x => x) g (rel_ints ws)
end Gos
end

section
open PySem PySem.W PyProof.Rows
set_option maxHeartbeats 0
namespace Gos
open PySem
noncomputable abbrev rt (i : Int) : D := .tuple [.int i, .int 1]
noncomputable abbrev lp (a b : Int) : D := .list [rt a, rt b, rt 1]
noncomputable abbrev sl4 (s d a b e f : Int) : List S := [.unb, .unb, .fr (.int s), .fr (.int d), .fr (lp a b), .fr (lp e f), .unb, .unb, .unb, .unb, .unb, .unb, .unb]
theorem end_of {s d a b e f : Int} (h1 : p_l3.1 (sl s d) = some (.next (sl4 s d a b e f))) (h2 : restOk (sl4 s d a b e f) d = true) : endOk s d = true := by
  unfold endOk
  rw [h1]
  exact h2
theorem case_0_0 : endOk 0 1000003 = true := end_of (show p_l3.1 (sl 0 1000003) = some (.next (sl4 0 1000003 0 1000003 1000004 1000005)) by kernel_rfl) (by kernel_rfl)
theorem case_0_1 : endOk 0 3 = true := end_of (show p_l3.1 (sl 0 3) = some (.next (sl4 0 3 0 3 4 5)) by kernel_rfl) (by kernel_rfl)
theorem case_0_2 : endOk 0 202 = true := end_of (show p_l3.1 (sl 0 202) = some (.next (sl4 0 202 0 202 203 204)) by kernel_rfl) (by kernel_rfl)
theorem case_0_3 : endOk 0 1 = true := end_of (show p_l3.1 (sl 0 1) = some (.next (sl4 0 1 0 1 2 3)) by kernel_rfl) (by kernel_rfl)
theorem case_0_4 : endOk 0 2 = true := end_of (show p_l3.1 (sl 0 2) = some (.next (sl4 0 2 0 2 3 4)) by kernel_rfl) (by kernel_rfl)
theorem case_0_5 : endOk 0 5003 = true := end_of (show p_l3.1 (sl 0 5003) = some (.next (sl4 0 5003 0 5003 5004 5005)) by kernel_rfl) (by kernel_rfl)
theorem case_1_0 : endOk 1 1000003 = true := end_of (show p_l3.1 (sl 1 1000003) = some (.next (sl4 1 1000003 1000004 1000005 2000010 1000007)) by kernel_rfl) (by kernel_rfl)
theorem case_1_1 : endOk 1 3 = true := end_of (show p_l3.1 (sl 1 3) = some (.next (sl4 1 3 4 5 10 7)) by kernel_rfl) (by kernel_rfl)
theorem case_1_2 : endOk 1 202 = true := end_of (show p_l3.1 (sl 1 202) = some (.next (sl4 1 202 203 204 408 206)) by kernel_rfl) (by kernel_rfl)
theorem case_1_3 : endOk 1 1 = true := end_of (show p_l3.1 (sl 1 1) = some (.next (sl4 1 1 2 3 6 5)) by kernel_rfl) (by kernel_rfl)
theorem case_1_4 : endOk 1 2 = true := end_of (show p_l3.1 (sl 1 2) = some (.next (sl4 1 2 3 4 8 6)) by kernel_rfl) (by kernel_rfl)
theorem case_1_5 : endOk 1 5003 = true := end_of (show p_l3.1 (sl 1 5003) = some (.next (sl4 1 5003 5004 5005 10010 5007)) by kernel_rfl) (by kernel_rfl)
theorem case_2_0 : endOk 2 1000003 = true := end_of (show p_l3.1 (sl 2 1000003) = some (.next (sl4 2 1000003 2000010 1000007 3000018 1000009)) by kernel_rfl) (by kernel_rfl)
theorem case_2_1 : endOk 2 3 = true := end_of (show p_l3.1 (sl 2 3) = some (.next (sl4 2 3 10 7 18 9)) by kernel_rfl) (by kernel_rfl)
theorem case_2_2 : endOk 2 202 = true := end_of (show p_l3.1 (sl 2 202) = some (.next (sl4 2 202 408 206 615 208)) by kernel_rfl) (by kernel_rfl)
theorem case_2_3 : endOk 2 1 = true := end_of (show p_l3.1 (sl 2 1) = some (.next (sl4 2 1 6 5 12 7)) by kernel_rfl) (by kernel_rfl)
theorem case_2_4 : endOk 2 2 = true := end_of (show p_l3.1 (sl 2 2) = some (.next (sl4 2 2 8 6 15 8)) by kernel_rfl) (by kernel_rfl)
theorem case_2_5 : endOk 2 5003 = true := end_of (show p_l3.1 (sl 2 5003) = some (.next (sl4 2 5003 10010 5007 15018 5009)) by kernel_rfl) (by kernel_rfl)
theorem case_3_0 : endOk 3 1000003 = true := end_of (show p_l3.1 (sl 3 1000003) = some (.next (sl4 3 1000003 3000018 1000009 4000028 1000011)) by kernel_rfl) (by kernel_rfl)
theorem case_3_1 : endOk 3 3 = true := end_of (show p_l3.1 (sl 3 3) = some (.next (sl4 3 3 18 9 28 11)) by kernel_rfl) (by kernel_rfl)
theorem case_3_2 : endOk 3 202 = true := end_of (show p_l3.1 (sl 3 202) = some (.next (sl4 3 202 615 208 824 210)) by kernel_rfl) (by kernel_rfl)
theorem case_3_3 : endOk 3 1 = true := end_of (show p_l3.1 (sl 3 1) = some (.next (sl4 3 1 12 7 20 9)) by kernel_rfl) (by kernel_rfl)
theorem case_3_4 : endOk 3 2 = true := end_of (show p_l3.1 (sl 3 2) = some (.next (sl4 3 2 15 8 24 10)) by kernel_rfl) (by kernel_rfl)
theorem case_3_5 : endOk 3 5003 = true := end_of (show p_l3.1 (sl 3 5003) = some (.next (sl4 3 5003 15018 5009 20028 5011)) by kernel_rfl) (by kernel_rfl)
theorem cases_all : ∀ c : Nat, c < 4 → ∀ e : Nat, e < 6 → endOk c (dAt e) = true
  | 0, _, 0, _ => case_0_0
  | 0, _, 1, _ => case_0_1
  | 0, _, 2, _ => case_0_2
  | 0, _, 3, _ => case_0_3
  | 0, _, 4, _ => case_0_4
  | 0, _, 5, _ => case_0_5
  | 1, _, 0, _ => case_1_0
  | 1, _, 1, _ => case_1_1
  | 1, _, 2, _ => case_1_2
  | 1, _, 3, _ => case_1_3
  | 1, _, 4, _ => case_1_4
  | 1, _, 5, _ => case_1_5
  | 2, _, 0, _ => case_2_0
  | 2, _, 1, _ => case_2_1
  | 2, _, 2, _ => case_2_2
  | 2, _, 3, _ => case_2_3
  | 2, _, 4, _ => case_2_4
  | 2, _, 5, _ => case_2_5
  | 3, _, 0, _ => case_3_0
  | 3, _, 1, _ => case_3_1
  | 3, _, 2, _ => case_3_2
  | 3, _, 3, _ => case_3_3
  | 3, _, 4, _ => case_3_4
  | 3, _, 5, _ => case_3_5
end Gos
end

section
open PySem PySem.W PyProof.Rows
set_option maxHeartbeats 4000000
namespace Gos
theorem ok_caller : Ok 34 callerA := ⟨rfl, by decide, by decide⟩
theorem fin_row (all : ∀ c : Nat, c < 4 → ∀ e : Nat, e < 6 → endOk c (dAt e) = true) : PySem.Challenge.rw_rh0046_01.Holds := by
  have hs : PySem.Challenge.rw_rh0046_01.wellSaid = true := said_ok
  refine holds_law hs fun said => ?_
  refine PySem.W.holds_open (q := Gos.qv) (loose := Gos.looseL) (Xt := Gos.xt Gos.qv) (XP := XL Gos.qv []) (Yf := Gos.obs) (Ya := Gos.valA) (YP := Gos.Says) (N := 7658) Gos.h_left Gos.says_of Gos.says_keep (fun s e => xl_of s (Bool.and_eq_true_iff.mp e).1) XL.keeps (def_at 107 134 (by decide +kernel) (by kernel_rfl) (by kernel_rfl) : PySem.W.defOf Gos.qv "law" = some (Gos.recD 134, [])) (by kernel_rfl) (by kernel_rfl) (fun s e => recFacts_of (Bool.and_eq_true_iff.mp e).2) (by rfl) said ?ok ⟨rfl, rfl, rfl, rfl, rfl, ?tb⟩ ?hw ?hc
  case ok => exact (congrArg (fun f => f qv pw) wellB_well).trans well_ok
  case tb => exact tab_ok
  case hw => exact ⟨[.list [.int 0]], by decide +kernel, by decide +kernel⟩
  intro w s₀ s₁ mg mb G Y a o pm cd doc dV kV ho hd hcd hD hmg hg args vals as hpre hlay hrd hwl hlo
  wrow_args hpre hlay hrd hwl hlo
  rename Well _ _ _ _ => hw
  have hn := ‹¬ (_ : Int) < _›
  refine law_call (has_of G Y) all (s := s₁) ok_caller rfl (Keep.refl _) hmg (rel_of_well hw) (by omega) fun h' tk k => ?_
  exact ⟨.inl ⟨.bool true, .bool true, [], rfl, fun _ => rfl, .bool true, by wrow_post, fun _ => ⟨List.nodup_nil, fun a h => by cases h⟩⟩, OldK.of_keep k, rfl, AllBare.of_eq hg⟩
end Gos
end

theorem PySem.Challenge.cw_rh0046_01_holds : PySem.Challenge.rw_rh0046_01.Holds := by
  exact Gos.fin_row Gos.cases_all
