import PyProof.Rows.All
import Wide.All
import OpenK.AllK
import Wide.FinOn
import HandS.ForMost
import HandS.ForExc
import HandS.Zip
import HandS.TupAny
import HandS.TupMul
import HandS.IsInst
import HandS.Walk
import HandS.Flow
import HandS.Deep
import HandS.Defaults
import HandS.WordsExc
import HandS.More
import HandS.Head0
import HandS.Head1
import HandS.Head2
import HandS.HeadEnd
import HandS.HeadHook1
import HandS.HeadHook2
import HandS.Lambda
import HandS.EndTab
import HandS.ExcIs
import HandS.TupLe
import PyProof.ListMulRoad
import PyProof.FactsAll.tuple_2
import HandS.Dict
import KE.KDictPairs
import KE.KTupSum
import HandS.SortRule
import HandS.SortInts
import KE.KDictSum
import KE.KDictWalk
import KE.GoesMore
import PyProof.EnumMake
import HandS.HeadHook4
import KE.KDictDisplayH
import HandS.Small
import HandS.ExcValue
import HandS.HeadWalk
import PySem.Challenge.RW_manycaches_k02_steps
import KE.KStateDown
import Lean
set_option Elab.async false
set_option linter.all false
set_option maxRecDepth 100000
set_option maxHeartbeats 4000000
namespace L2
end L2
namespace MC
open PySem PySem.Spec L2 PyProof.Rows
/-- what is known of the module -/
structure Tab where
  nm : Nat → Str
  ar : Nat → Nat
  bl : List Str
  cn : List (Str × Int)
  kw : List (Nat × Nat × List Str × List Nat)
  ex : List Str
  fl : List (Str × Str) := []
  mks : List Nat := []
  mt : List (Nat × Str × Str) := []
  xs : List (Str × List Str) := []
  lm : List Str := []
  rs : Bool := false
  us : List Nat := []
/-- what _law_result calls an error -/
def xnm : List (Str × Str) := [("InvalidProtocol", "protocol"), ("InvalidNumber", "number"), ("InvalidConfiguration", "configuration"), ("InvalidStep", "step"), ("InvalidTrace", "trace"), ("InvalidPattern", "pattern"), ("InvalidChange", "change"), ("InvalidLog", "log"),
  ("InvalidOrder", "order"), ("InvalidRule", "rule"), ("InvalidIndex", "index"), ("InvalidText", "text"), ("NotComparable", "compare"), ("TooLarge", "large"), ("TooMany", "many"), ("NothingToUndo", "undo")]
def excB (K : PySem.W.Frag) (D : Addr) : Bool :=
  He.eqO (PySem.W.findIn K (.ref D) "__getattribute__") (some (some (.builtin "BaseException.__getattribute__"))) && (He.eqO (PySem.W.findIn K (.ref D) "__getattr__") (some none) && (decide (PySem.W.subIn K (.ref D) (.type "BaseException") = some true) && (PySem.W.hasDictIn K D &&
  (He.eqO (PySem.W.findIn K (.ref D) "__class__") (some (some (.builtin "object.__class__"))) && (He.eqO (PySem.W.specialIn K (.builtin "object.__class__") "__get__") (some (some (.builtin "getset_descriptor.__get__"))) && (decide (PySem.W.takesIn K (.builtin "object.__class__") = some true) && decide (PySem.W.mroIn K D (.type "object") = some true)))))))
def cvOf (K : PySem.W.Frag) (c : Str) : Value := if c = "ValueError" then .type "ValueError" else .ref (He.ga K c)
def moreB (T : Tab) (K : PySem.W.Frag) : Bool := (!T.rs || (xnm.all (fun p => excB K (He.ga K p.1) && decide (PySem.W.exmOne K (.ref (He.ga K p.1)) (.ref (He.ga K "CacheError")) = some true)) && T.xs.all (fun q => xnm.all fun p => decide (PySem.W.kitOne K (.ref (He.ga K p.1)) (cvOf K q.1) = some (q.2.contains p.1))))) &&
  decide ((T.lm.map fun q => (He.cT K (q, none)).2).Nodup)
def faOf (T : Tab) (gl : List Str) : List He.Fa := T.bl.map .free ++ (T.cn.map (fun p => .int p.1 p.2) ++ (gl.map .glo ++ (T.ex.map .exc ++ (T.fl.map (fun p => .cls p.1) ++ T.fl.map (fun p => .noat p.1 p.2)))))
end MC
namespace K02
open PySem PySem.Spec PyProof.Rows L2 MC
def top (i : Nat) : Stmt := PySem.Challenge.pw_manycaches_k02_steps.main.body.getD i (.Pass ⟨0, 0, 0, 0⟩)
def nmL_0 : List (Nat × Str) := [(0, "_law_begun"), (1, "_law_draw"), (3, "is_between"), (4, "are_between"), (5, "is_ascending"), (6, "is_rule"), (7, "is_protocol"), (8, "others"), (9, "_law_rule"), (10, "_law_protocol"), (11, "first_of"), (12, "is_possible"), (13, "performed"), (14, "dropped"), (15, "moves"), (18, "_law_pattern"), (19, "check_protocol"), (20, "is_count"), (21, "are_counts"), (22, "is_configuration_of")]
def nmL_1 : List (Nat × Str) := [(23, "is_configuration"), (28, "check_configuration"), (29, "check_number"), (30, "initial"), (31, "steps"), (32, "is_step_shape"), (33, "moved"), (34, "after"), (99, "_law_moves"), (140, "_law_errors"), (141, "law")]
def nmL : List (Nat × Str) := nmL_0 ++ nmL_1
def arL_0 : List (Nat × Nat) := [(0, 0), (1, 3), (3, 3), (4, 3), (5, 1), (6, 2), (7, 1), (8, 2), (9, 3), (10, 4), (11, 2), (12, 2), (13, 2), (14, 2), (15, 2), (18, 4), (19, 1), (20, 1), (21, 2), (22, 2)]
def arL_1 : List (Nat × Nat) := [(23, 2), (28, 2), (29, 1), (30, 2), (31, 2), (32, 1), (33, 3), (34, 3), (99, 2), (140, 4), (141, 1)]
def arL : List (Nat × Nat) := arL_0 ++ arL_1
def T : Tab := { nm := fun i => (nmL.lookup i).getD "", ar := fun i => (arL.lookup i).getD 0, bl := ["ValueError", "all", "any", "bool", "dict", "enumerate", "int", "isinstance", "len", "list", "range", "str", "sum", "tuple", "zip"], cn := [("CACHES", 8), ("RULES", 8)], kw := [(30, 1, ["caches"], [0, 1]), (31, 1, ["configuration"], [0, 1]), (34, 1, ["configuration", "step"], [0, 1, 2])], ex := ["InvalidConfiguration", "InvalidNumber", "InvalidProtocol", "InvalidStep"], xs := [("InvalidProtocol", ["InvalidProtocol"]), ("InvalidNumber", ["InvalidNumber"]), ("InvalidConfiguration", ["InvalidConfiguration"]), ("InvalidStep", ["InvalidStep"]), ("InvalidTrace", ["InvalidTrace"]), ("InvalidPattern", ["InvalidPattern"]), ("InvalidChange", ["InvalidChange"]), ("InvalidLog", ["InvalidLog"]), ("InvalidOrder", ["InvalidOrder"]), ("InvalidRule", ["InvalidRule"]), ("InvalidIndex", ["InvalidIndex"]), ("InvalidText", ["InvalidText"]), ("NotComparable", ["NotComparable"]), ("TooLarge", ["TooLarge"]), ("TooMany", ["TooMany"]), ("NothingToUndo", ["NothingToUndo"]), ("ValueError", ["InvalidProtocol", "InvalidNumber", "InvalidConfiguration", "InvalidStep", "InvalidTrace", "InvalidPattern", "InvalidChange", "InvalidLog", "InvalidOrder", "InvalidRule", "InvalidIndex", "InvalidText", "NotComparable", "TooLarge", "TooMany", "NothingToUndo"])], lm := ["_law_errors", "law"], rs := true, us := [0, 1, 3, 4, 5, 6, 7, 8, 9, 10, 11, 12, 13, 14, 15, 18, 19, 20, 21, 22, 23, 28, 29, 30, 31, 32, 33, 34, 99, 140, 141] }
def dd (n : Str) (i : Nat) : He.DefD := ⟨(n, none), n, n, defArgs (top i), defBody (top i), defScope (top i), [], []⟩
def fn_0 : List He.DefD := [dd "_law_begun" 47, dd "_law_draw" 46, dd "is_between" 21, dd "are_between" 22, dd "is_ascending" 23, dd "is_rule" 24, dd "is_protocol" 25, dd "others" 35, dd "_law_rule" 48, dd "_law_protocol" 49, dd "first_of" 33, dd "is_possible" 36, dd "performed" 37, dd "dropped" 38, dd "moves" 39, dd "_law_pattern" 50, dd "check_protocol" 26, dd "is_count" 28, dd "are_counts" 27, dd "is_configuration_of" 29]
def fn_1 : List He.DefD := [dd "is_configuration" 30, dd "check_configuration" 31, dd "check_number" 32, dd "initial" 34, dd "steps" 40, dd "is_step_shape" 41, dd "moved" 42, dd "after" 43, dd "_law_moves" 51, dd "_law_errors" 52, dd "law" 53, dd "_law_result" 45]
def fn : List He.DefD := fn_0 ++ fn_1
def gl_0 : List Str := ["_law_begun", "_law_draw", "is_between", "are_between", "is_ascending", "is_rule", "is_protocol", "others", "_law_rule", "_law_protocol", "first_of", "is_possible", "performed", "dropped", "moves", "_law_pattern", "check_protocol", "is_count", "are_counts", "is_configuration_of"]
def gl_1 : List Str := ["is_configuration", "check_configuration", "check_number", "initial", "steps", "is_step_shape", "moved", "after", "_law_moves", "_law_errors", "law", "InvalidConfiguration", "InvalidNumber", "InvalidProtocol", "InvalidStep", "_law_result", "CacheError", "InvalidTrace", "InvalidPattern", "InvalidChange"]
def gl_2 : List Str := ["InvalidLog", "InvalidOrder", "InvalidRule", "InvalidIndex", "InvalidText", "NotComparable", "TooLarge", "TooMany", "NothingToUndo"]
def gl : List Str := gl_0 ++ gl_1 ++ gl_2
def nms_0 : List Str := ["__name__", "CacheError", "InvalidProtocol", "InvalidNumber", "InvalidConfiguration", "InvalidStep", "InvalidTrace", "InvalidPattern", "InvalidChange", "InvalidLog", "InvalidOrder", "InvalidRule", "InvalidIndex", "InvalidText", "NotComparable", "TooLarge", "TooMany", "NothingToUndo", "RULES", "CACHES"]
def nms_1 : List Str := ["is_between", "are_between", "is_ascending", "is_rule", "is_protocol", "check_protocol", "are_counts", "is_count", "is_configuration_of", "is_configuration", "check_configuration", "check_number", "first_of", "initial", "others", "is_possible", "performed", "dropped", "moves", "steps"]
def nms_2 : List Str := ["is_step_shape", "moved", "after", "_law_result", "_law_draw", "_law_begun", "_law_rule", "_law_protocol", "_law_pattern", "_law_moves", "_law_errors"]
def nms : List Str := nms_0 ++ nms_1 ++ nms_2
abbrev R : PySem.W.OpenRow := PySem.W.OpenLaw.row PySem.Challenge.rw_manycaches_k02_steps
abbrev hk : PySem.W.Hook := He.hookX 5 (faOf T gl) fn [] (T.lm.map fun q => (q, none)) (moreB T)
def ob (s : PySem.W.SharedT) : He.AlX := He.obsX 5 (faOf T gl) fn [] (T.lm.map fun q => (q, none)) (moreB T) (HandSHeadRun.getT s)
theorem ob_eq (s : PySem.W.SharedT) : ob s = hk.obs s.abs := He.obsX_eq (HandSHeadRun.getT_eq s)
theorem run (w : World) : HandSHeadRun.RunEq R (PySem.W.view R.prog [53]) hk ob 6000 nms w := by
  intro os
  kernel_rfl
end K02
namespace MC
open PySem PySem.Spec L2

/-! ### values -/
inductive D where
  | non | bl (b : Bool) | int (i : Int) | str (x : Str)
  | tup (l : List D) | lst (l : List D) | dct (t : Bool) (ks vs : List D) | ins (c : Str) (fs : List Str) (vs : List D)
  | fn (f : Nat) | obj (n : Nat) | scr (l : List Int) | exc (c : Str)
  deriving Inhabited
/-- what a slot holds: nothing known, a value for good, a list or a dict that this frame alone may change -/
inductive Sl where
  | un | imm (d : D) | ml (l : List D) | md (t : Bool) (ks vs : List D)
  deriving Inhabited
inductive R (α : Type) where
  | ok (a : α) | ex (c : Str)
/-- objects that are handed around and changed -/
inductive GO where
  | town (c : Int) (r : List (Int × Int))
abbrev G := List GO
abbrev M (α : Type) := G → Option (R α × G)
def M.pure {α : Type} (a : α) : M α := fun g => some (.ok a, g)
def M.fail {α : Type} : M α := fun _ => none
def M.exc {α : Type} (c : Str) : M α := fun g => some (.ex c, g)
def M.bind {α β : Type} (m : M α) (f : α → M β) : M β := fun g => match m g with
  | none => none
  | some (.ex c, g') => some (.ex c, g')
  | some (.ok a, g') => f a g'
def M.opt {α : Type} : Option α → M α
  | some a => M.pure a
  | none => M.fail
@[simp] theorem M.pure_bind {α β : Type} (a : α) (f : α → M β) : M.bind (M.pure a) f = f a := rfl
@[simp] theorem M.fail_bind {α β : Type} (f : α → M β) : M.bind (M.fail : M α) f = M.fail := rfl
@[simp] theorem M.exc_bind {α β : Type} (c : Str) (f : α → M β) : M.bind (M.exc c : M α) f = M.exc c := rfl
@[simp] theorem M.opt_some {α : Type} (a : α) : M.opt (some a) = M.pure a := rfl
@[simp] theorem M.opt_none {α : Type} : M.opt (none : Option α) = M.fail := rfl
theorem M.bind_assoc {α β γ : Type} (m : M α) (f : α → M β) (k : β → M γ) : M.bind (M.bind m f) k = M.bind m fun a => M.bind (f a) k := by
  funext g
  unfold M.bind
  cases m g with
  | none => rfl
  | some p =>
    obtain ⟨r, g'⟩ := p
    cases r <;> rfl
theorem M.bind_pure {α : Type} (m : M α) : M.bind m M.pure = m := by
  funext g
  unfold M.bind M.pure
  cases m g with
  | none => rfl
  | some p =>
    obtain ⟨r, g'⟩ := p
    cases r <;> rfl

/-! ### syntax -/
inductive Op2 where
  | add | sub | mul | fdiv | mod | pow
  | eq | ne | lt | le | gt | ge | mem | nmem | isN | notN | isB
  deriving DecidableEq
inductive Ty where
  | int | bool | tuple | str
  deriving DecidableEq
inductive Pr where
  | len | all | any | sum | max | min | sorted | tuple | list | dictK | dictT
  deriving DecidableEq
inductive Tg where
  | n (i : Nat) | t (l : List Tg)
mutual
inductive E where
  | var (i : Nat)
  | cst (d : D)
  | con (x : Str) (i : Int)
  | tup (es : List E) | lst (es : List E)
  | op (o : Op2) (a b : E)
  | chn (o o' : Op2) (a b c : E)
  | and (es : List E) | or (es : List E)
  | not (e : E)
  | neg (e : E)
  | ife (c a b : E)
  | idx (a b : E)
  | slc (a : E) (lo hi : Option E)
  | call (f : Nat) (es : List E)
  | callk (f : Nat) (es : List E) (ks : List (Str × E)) (perm : List Nat)
  | prim (p : Pr) (es : List E)
  | isi (e : E) (t : Ty)
  | comp (elt : E) (tg : Tg) (own : List Nat) (it : It) (cs : List E)
  | at_ (i : Nat) (e : E)
  | in_ (neg : Bool) (e : E) (i : Nat)
  | get (a b : E)
  | get3 (a b c : E)
  | fld (c : Str) (a : E) (f : Str)
  | make (f : Nat) (es : List E)
  | meth (f : Nat) (c m : Str) (a : E) (es : List E)
  | maxv (a : E)
  | rev (a : E)
  | rngl (t : Bool) (es : List E)
  | isx (e : E) (c : Str) (ds : List Str)
  | res (e : E)
inductive It where
  | e (e : E) | rng (es : List E) | enum (e : E) | zip (a b : E)
end
inductive S where
  | asg (tg : Tg) (e : E)
  | par (is : List Nat) (es : List E)
  | new (i : Nat) (e : E)
  | fz (i : Nat)
  | clr (is : List Nat)
  | setix (i : Nat) (k v : E)
  | augix (i : Nat) (o : Op2) (k v : E)
  | aug (i : Nat) (o : Op2) (e : E)
  | app (i : Nat) (e : E) | ext (i : Nat) (e : E)
  | ife (c : E) (a b : List S)
  | forr (tg : Tg) (it : It) (b : List S) (tmp : List Nat)
  | whil (c : E) (b : List S)
  | whilL (i : Nat) (b : List S)
  | newd (i : Nat) (t : Bool) (kv : Option (E × E))
  | setk (i : Nat) (k v : E)
  | pop (i j : Nat)
  | par2 (i j : Nat) (m1 m2 : Bool) (a b : E)
  | set2 (i : Nat) (k1 k2 v1 v2 : E)
  | newx (i j : Nat) (ps : List (Str × Str × List Str))
  | updx (i j : Nat) (ps : List (Str × Str × List Str))
  | ret (e : E)
  | exp (e : E)
  | raise (c : Str)
  | brk | cnt
inductive Flow' where
  | next (σ : List Sl) | ret (d : D) | brk (σ : List Sl) | cnt (σ : List Sl)
end MC
namespace MC
open PySem PySem.Spec L2

/-! ### how a value lies in the heap -/
/-- a list that nothing changes any more -/
def FzL (H : Hp) (a : Addr) (vs : List V) : Prop := ∃ o, H a = some (.frz o (.lst vs))
theorem FzL.sq {K : PySem.W.Frag} {H : Hp} {a : Addr} {vs : List V} (h : FzL H a vs) : SqL K H a vs := by
  obtain ⟨o, h⟩ := h
  exact .inl (.inr ⟨o, h⟩)
/-- a tuple -/
abbrev TpH (H : Hp) (a : Addr) (vs : List V) : Prop := H a = some (.tup vs)
/-- keys of dicts -/
def keyD : Key → D
  | .inl i => .int i
  | .inr x => .str x
def keyTD (ks : List Key) : D := .tup (ks.map keyD)
/-- where the changing objects stand -/
abbrev Rho := List (Addr × Addr)
/-- the names of defs -/
structure Cn where
  K : PySem.W.Frag
  nm : Nat → Str
  tb : List (Addr × Str) := []
/-- the script: told by the law's entry -/
def ScrAt (K : PySem.W.Frag) (H : Hp) (a : Addr) (ns : List Int) : Prop := (∃ o, H a = some (.frz o (.lst (ns.map V.int)))) ∨
  ∃ (o : Obj) (its : Array Value) (n : Nat), K.lookup a = some o ∧ o.cls = .type "list" ∧ o.dict = none ∧ o.data = .seq its n ∧ its.size ≤ sizeLine ∧ Vals (ns.map V.int) its.toList
theorem ScrAt.sq {K : PySem.W.Frag} {H : Hp} {a : Addr} {ns : List Int} (h : ScrAt K H a ns) : SqL K H a (ns.map V.int) := by
  rcases h with ⟨o, h⟩ | h
  · exact .inl (.inr ⟨o, h⟩)
  · exact .inr h
mutual
def Rep (C : Cn) (ρ : Rho) (H : Hp) : D → V → Prop
  | .non, v => v = .non
  | .bl b, v => v = .bl b
  | .int i, v => v = .int i
  | .str x, v => v = .str x
  | .tup l, v => ∃ a vs, v = .ref a ∧ TpH H a vs ∧ Reps C ρ H l vs
  | .lst l, v => ∃ a vs, v = .ref a ∧ FzL H a vs ∧ Reps C ρ H l vs
  | .dct t ks ds, v => ∃ a o, v = .ref a ∧ ((t = false ∧ ∃ kvs : List (Key × V), H a = some (.frz o (.dK kvs)) ∧ ks = kvs.map (fun p => keyD p.1) ∧ Reps C ρ H ds (kvs.map (·.2))) ∨
      (t = true ∧ ∃ kvs : List (List Key × V), H a = some (.frz o (.dT kvs)) ∧ ks = kvs.map (fun p => keyTD p.1) ∧ Reps C ρ H ds (kvs.map (·.2))))
  | .ins c fs ds, v => ∃ x dx, ∃ fvs : List (Str × V), v = .ref x ∧ H x = some (.ins (He.ga C.K c) dx fvs) ∧ fs = fvs.map (·.1) ∧ Reps C ρ H ds (fvs.map (·.2))
  | .fn f, v => v = .ref (He.ga C.K (C.nm f))
  | .obj n, v => ∃ p, ρ[n]? = some p ∧ v = .ref p.1
  | .scr ns, v => ∃ a, v = .ref a ∧ ScrAt C.K H a ns
  | .exc c, v => ∃ a oe u vs, v = .ref a ∧ H a = some (.frz oe u) ∧ Zc (.ref (He.ga C.K c)) none oe ∧ oe.data = .fields vs
def Reps (C : Cn) (ρ : Rho) (H : Hp) : List D → List V → Prop
  | [], vs => vs = []
  | d :: l, vs => ∃ v r, vs = v :: r ∧ Rep C ρ H d v ∧ Reps C ρ H l r
end
/-- nothing that was tracked is changed -/
def Grow (H H' : Hp) : Prop := ∀ b u, H b = some u → H' b = some u
theorem Grow.refl (H : Hp) : Grow H H := fun _ _ h => h
theorem Grow.trans {H H1 H2 : Hp} (a : Grow H H1) (b : Grow H1 H2) : Grow H H2 := fun c u h => b c u (a c u h)
theorem Grow.upd {H : Hp} {p : Addr} {o : HO} (h : H p = none) : Grow H (upd H p o) := fun b u e => by
  rw [upd_ne (ne_of_none e h)]
  exact e
/-- all but the changing objects and the tables of code stay -/
def inRho (ρ : Rho) (b : Addr) : Prop := ∃ p ∈ ρ, b = p.1 ∨ b = p.2
def isTbl : HO → Prop
  | .tbl _ => True
  | _ => False
/-- tables and what stands in them -/
def isCd : HO → Prop
  | .tbl _ => True
  | .ext _ => True
  | _ => False
theorem isCd.of {u : HO} (h : ¬ isCd u) : ¬ isTbl u := fun z => by
  cases u <;> first | exact h trivial | exact z
/-- a table that we know -/
def inTb (T : List (Addr × Str)) (b : Addr) : Prop := ∃ q, (b, q) ∈ T
/-- nothing that we know stands at p -/
def Fre (T : List (Addr × Str)) (H : Hp) (p : Addr) : Prop := ∀ u, H p = some u → isTbl u ∧ ¬ inTb T p
theorem Fre.of {T : List (Addr × Str)} {H : Hp} {p : Addr} (h : H p = none) : Fre T H p := fun u e => by rw [h] at e; cases e
theorem Fre.ne {T : List (Addr × Str)} {H : Hp} {p b : Addr} {u : HO} (h : Fre T H p) (e : H b = some u) (n : ¬ isTbl u) : b ≠ p := fun z => by
  subst z
  exact n (h u e).1
structure Ext (T : List (Addr × Str)) (ρ : Rho) (H H' : Hp) : Prop where
  at_ : ∀ b u, H b = some u → ¬ inRho ρ b → ¬ isTbl u → H' b = some u
  tbl : ∀ b u, H b = some u → ¬ inRho ρ b → isTbl u → inTb T b → ∃ u', H' b = some u' ∧ isTbl u'
theorem Ext.refl (T : List (Addr × Str)) (ρ : Rho) (H : Hp) : Ext T ρ H H := ⟨fun _ _ h _ _ => h, fun _ u h _ t _ => ⟨u, h, t⟩⟩
theorem Ext.of (T : List (Addr × Str)) (ρ : Rho) {H H' : Hp} (h : Grow H H') : Ext T ρ H H' := ⟨fun b u e _ _ => h b u e, fun b u e _ t _ => ⟨u, h b u e, t⟩⟩
theorem inRho.mono {ρ ρ' : Rho} (h : ρ <+: ρ') {b : Addr} (x : inRho ρ b) : inRho ρ' b := by
  obtain ⟨p, hp, e⟩ := x
  exact ⟨p, h.subset hp, e⟩
/-- changing objects are dicts that H tracks -/
def RhoOk (ρ : Rho) (H : Hp) : Prop := ∀ b, inRho ρ b → ∃ kvs, H b = some (.dK kvs)
theorem tup_not {ρ : Rho} {H : Hp} (ok : RhoOk ρ H) {b : Addr} {u : HO} (h : H b = some u) (n : ∀ kvs, u ≠ .dK kvs) : ¬ inRho ρ b := fun x => by
  obtain ⟨kvs, e⟩ := ok b x
  rw [h] at e
  exact n kvs (Option.some.inj e)
section
variable {C : Cn} {ρ ρ' : Rho} {H H' : Hp}
/-- what a value leans on -/
structure Keeps (K : PySem.W.Frag) (H H' : Hp) : Prop where
  tup : ∀ a vs, TpH H a vs → TpH H' a vs
  frz : ∀ a o u, H a = some (.frz o u) → H' a = some (.frz o u)
  ins : ∀ a c dx fs, H a = some (.ins c dx fs) → H' a = some (.ins c dx fs)
  lst : ∀ a vs, FzL H a vs → FzL H' a vs
  scr : ∀ a ns, ScrAt K H a ns → ScrAt K H' a ns
theorem Keeps.mk' {K : PySem.W.Frag} (k1 : ∀ a xs, H a = some (.tup xs) → H' a = some (.tup xs)) (k2 : ∀ a o u, H a = some (.frz o u) → H' a = some (.frz o u)) (k3 : ∀ a c dx fs, H a = some (.ins c dx fs) → H' a = some (.ins c dx fs)) : Keeps K H H' :=
  ⟨k1, k2, k3, fun a vs ⟨o, h⟩ => ⟨o, k2 _ _ _ h⟩, fun a ns h => by
    rcases h with ⟨o, h⟩ | h
    · exact .inl ⟨o, k2 _ _ _ h⟩
    · exact .inr h⟩
theorem Keeps.trans {K : PySem.W.Frag} {H H1 H2 : Hp} (a : Keeps K H H1) (b : Keeps K H1 H2) : Keeps K H H2 := ⟨fun x v h => b.tup x v (a.tup x v h), fun x o u h => b.frz x o u (a.frz x o u h), fun x c d f h => b.ins x c d f (a.ins x c d f h), fun x v h => b.lst x v (a.lst x v h), fun x v h => b.scr x v (a.scr x v h)⟩
theorem Keeps.refl {K : PySem.W.Frag} (H : Hp) : Keeps K H H := ⟨fun _ _ h => h, fun _ _ _ h => h, fun _ _ _ _ h => h, fun _ _ h => h, fun _ _ h => h⟩
theorem Grow.keeps {K : PySem.W.Frag} (h : Grow H H') : Keeps K H H' := Keeps.mk' (fun _ _ e => h _ _ e) (fun _ _ _ e => h _ _ e) fun _ _ _ _ e => h _ _ e
theorem Ext.keeps {K : PySem.W.Frag} {T : List (Addr × Str)} (ok : RhoOk ρ H) (h : Ext T ρ H H') : Keeps K H H' :=
  Keeps.mk' (fun a xs e => h.at_ a _ e (tup_not ok e (fun _ z => nomatch z)) (fun z => z)) (fun a o u e => h.at_ a _ e (tup_not ok e (fun _ z => nomatch z)) (fun z => z)) fun a c dx fs e => h.at_ a _ e (tup_not ok e (fun _ z => nomatch z)) (fun z => z)
theorem get_pre {ρ ρ' : Rho} (h : ρ <+: ρ') {n : Nat} {p : Addr × Addr} (e : ρ[n]? = some p) : ρ'[n]? = some p := by
  obtain ⟨t, rfl⟩ := h
  rw [List.getElem?_append_left (List.getElem?_eq_some_iff.mp e).1]
  exact e
mutual
theorem Rep.to (k : Keeps C.K H H') (pre : ρ <+: ρ') : ∀ {d : D} {v : V}, Rep C ρ H d v → Rep C ρ' H' d v
  | .non, _, h => h
  | .bl _, _, h => h
  | .int _, _, h => h
  | .str _, _, h => h
  | .tup l, v, h => by
    obtain ⟨a, vs, e, q, r⟩ := h
    exact ⟨a, vs, e, k.tup _ _ q, Reps.to k pre r⟩
  | .lst l, v, h => by
    obtain ⟨a, vs, e, q, r⟩ := h
    exact ⟨a, vs, e, k.lst _ _ q, Reps.to k pre r⟩
  | .dct t ks ds, v, h => by
    obtain ⟨a, o, e, h⟩ := h
    refine ⟨a, o, e, ?_⟩
    rcases h with ⟨et, kvs, q, ek, r⟩ | ⟨et, kvs, q, ek, r⟩
    · exact .inl ⟨et, kvs, k.frz _ _ _ q, ek, Reps.to k pre r⟩
    · exact .inr ⟨et, kvs, k.frz _ _ _ q, ek, Reps.to k pre r⟩
  | .ins c fs ds, v, h => by
    obtain ⟨x, dx, fvs, e, q, ef, r⟩ := h
    exact ⟨x, dx, fvs, e, k.ins _ _ _ _ q, ef, Reps.to k pre r⟩
  | .fn _, _, h => h
  | .obj n, v, h => by
    obtain ⟨p, e, q⟩ := h
    exact ⟨p, get_pre pre e, q⟩
  | .scr ns, v, h => by
    obtain ⟨a, e, q⟩ := h
    exact ⟨a, e, k.scr _ _ q⟩
  | .exc c, v, h => by
    obtain ⟨a, oe, u, vs, e, q, z⟩ := h
    exact ⟨a, oe, u, vs, e, k.frz _ _ _ q, z⟩
theorem Reps.to (k : Keeps C.K H H') (pre : ρ <+: ρ') : ∀ {l : List D} {vs : List V}, Reps C ρ H l vs → Reps C ρ' H' l vs
  | [], _, h => h
  | d :: l, vs, h => by
    obtain ⟨v, r, e, h1, h2⟩ := h
    exact ⟨v, r, e, Rep.to k pre h1, Reps.to k pre h2⟩
end
theorem Rep.grow (g : Grow H H') {d : D} {v : V} (h : Rep C ρ H d v) : Rep C ρ H' d v := h.to g.keeps (List.prefix_refl _)
theorem Reps.grow (g : Grow H H') {l : List D} {v : List V} (h : Reps C ρ H l v) : Reps C ρ H' l v := h.to g.keeps (List.prefix_refl _)
theorem Reps.len : ∀ {l : List D} {vs : List V}, Reps C ρ H l vs → vs.length = l.length
  | [], vs, h => by
    rw [show vs = [] from h]
    rfl
  | d :: l, vs, h => by
    obtain ⟨v, r, e, _, h2⟩ := h
    rw [e, List.length_cons, List.length_cons, Reps.len h2]
theorem Reps.get : ∀ {l : List D} {vs : List V} {i : Nat} {d : D}, Reps C ρ H l vs → l[i]? = some d → ∃ v, vs[i]? = some v ∧ Rep C ρ H d v
  | [], _, i, d, _, e => by simp at e
  | x :: l, vs, 0, d, h, e => by
    obtain ⟨v, r, rfl, h1, _⟩ := h
    simp at e
    subst e
    exact ⟨v, rfl, h1⟩
  | x :: l, vs, i + 1, d, h, e => by
    obtain ⟨v, r, rfl, _, h2⟩ := h
    obtain ⟨w, e1, e2⟩ := Reps.get h2 (show l[i]? = some d by simpa using e)
    exact ⟨w, by simpa using e1, e2⟩
theorem Reps.get' : ∀ {l : List D} {vs : List V} {i : Nat} {v : V}, Reps C ρ H l vs → vs[i]? = some v → ∃ d, l[i]? = some d ∧ Rep C ρ H d v := fun {l vs i v} h e => by
  have hl := h.len
  have hi : i < l.length := by
    have := (List.getElem?_eq_some_iff.mp e).1
    omega
  obtain ⟨w, e1, e2⟩ := h.get (List.getElem?_eq_getElem hi)
  rw [e] at e1
  cases e1
  exact ⟨l[i], List.getElem?_eq_getElem hi, e2⟩
theorem Reps.append : ∀ {l m : List D} {vs ws : List V}, Reps C ρ H l vs → Reps C ρ H m ws → Reps C ρ H (l ++ m) (vs ++ ws)
  | [], m, vs, ws, h, q => by
    rw [show vs = [] from h]
    exact q
  | d :: l, m, vs, ws, h, q => by
    obtain ⟨v, r, rfl, h1, h2⟩ := h
    exact ⟨v, r ++ ws, rfl, h1, Reps.append h2 q⟩
theorem Reps.take : ∀ (n : Nat) {l : List D} {vs : List V}, Reps C ρ H l vs → Reps C ρ H (l.take n) (vs.take n)
  | 0, _, _, _ => by simp [Reps]
  | n + 1, [], vs, h => by
    rw [show vs = [] from h]
    simp [Reps]
  | n + 1, d :: l, vs, h => by
    obtain ⟨v, r, rfl, h1, h2⟩ := h
    exact ⟨v, r.take n, rfl, h1, Reps.take n h2⟩
theorem Reps.drop : ∀ (n : Nat) {l : List D} {vs : List V}, Reps C ρ H l vs → Reps C ρ H (l.drop n) (vs.drop n)
  | 0, _, _, h => h
  | n + 1, [], vs, h => by
    rw [show vs = [] from h]
    simp [Reps]
  | n + 1, d :: l, vs, h => by
    obtain ⟨v, r, rfl, h1, h2⟩ := h
    exact Reps.drop n h2
theorem Reps.one {d : D} {v : V} (h : Rep C ρ H d v) : Reps C ρ H [d] [v] := ⟨v, [], rfl, h, rfl⟩
theorem Reps.set {d : D} {v : V} (h : Rep C ρ H d v) : ∀ {l : List D} {vs : List V} (i : Nat), Reps C ρ H l vs → Reps C ρ H (l.set i d) (vs.set i v)
  | [], vs, i, q => by
    rw [show vs = [] from q]
    simp [Reps]
  | x :: l, vs, 0, q => by
    obtain ⟨w, r, rfl, _, h2⟩ := q
    exact ⟨v, r, rfl, h, h2⟩
  | x :: l, vs, i + 1, q => by
    obtain ⟨w, r, rfl, h1, h2⟩ := q
    exact ⟨w, r.set i v, rfl, h1, Reps.set h i h2⟩
theorem Reps.flat : ∀ {l : List D} {vs : List V} (n : Nat), Reps C ρ H l vs → Reps C ρ H (List.replicate n l).flatten (List.replicate n vs).flatten
  | l, vs, 0, h => by simp [Reps]
  | l, vs, n + 1, h => by
    rw [List.replicate_succ, List.replicate_succ, List.flatten_cons, List.flatten_cons]
    exact h.append (Reps.flat n h)
theorem Reps.snoc {l : List D} {vs : List V} {d : D} {v : V} (h : Reps C ρ H l vs) (q : Rep C ρ H d v) : Reps C ρ H (l ++ [d]) (vs ++ [v]) := h.append (.one q)
end

/-! ### freezing -/
theorem inv_frz {X : Cx} {pins : List (Addr × Obj)} {σ : St} {H : Hp} {s : Shared} {p : Addr} {xs : List V} (I : Inv X pins σ H s) (h : H p = some (.lst xs)) : ∃ o, Inv X pins σ (upd H p (.frz o (.lst xs))) s := by
  obtain ⟨hz, its, n, r, e⟩ := (show ObjOk X.prog X.w H s.heap p (.lst xs) from I.hok p _ h)
  refine ⟨_, I.write (x := p) (e := p) (h' := s.heap) (t' := s.toks) (o := .frz { cls := .type "list", data := .seq its.toArray n } (.lst xs)) (by rw [h]; trivial) (.inl rfl) (fun b u _ q => q) ⟨_, e⟩ ⟨e, hz, its, n, r, e⟩⟩
/-- a new list at v, taken for good -/
def FzTo (v : V) (H : Hp) (Q : VK) : Prop := ∃ p xs, v = .ref p ∧ H p = some (.lst xs) ∧ ∀ o, Q v (upd H p (.frz o (.lst xs)))
theorem EP.frz {X : Cx} {pins : List (Addr × Obj)} {σ : St} {Q : VK} {u : Value} {s : Shared} (h : EP X pins σ (fun v H => FzTo v H Q) u s) : EP X pins σ Q u s := by
  obtain ⟨v, H', I, r, p, xs, rfl, hp, q⟩ := h
  obtain ⟨o, I'⟩ := inv_frz I hp
  exact ⟨_, _, I', r, q o⟩
theorem PE.frz {X : Cx} {e : Expr} {t : TE} (h : PE X e t) : PE X e (fun σ H Q => t σ H fun v H1 => FzTo v H1 Q) :=
  ⟨fun pins s σ H Q I hw => thn (h.run pins s σ H _ I hw) fun _ _ q => EP.frz q⟩
theorem PE.imp {X : Cx} {e : Expr} {t t' : TE} (h : PE X e t) (k : ∀ σ H Q, t' σ H Q → t σ H Q) : PE X e t' := ⟨fun pins s σ H Q I hw => h.run pins s σ H Q I (k _ _ _ hw)⟩
theorem PT.imp {X : Cx} {e : Expr} {t t' : TT} (h : PT X e t) (k : ∀ σ H Q, t' σ H Q → t σ H Q) : PT X e t' := ⟨fun pins s σ H Q I hw => h.run pins s σ H Q I (k _ _ _ hw)⟩
theorem PS.imp {X : Cx} {e : Stmt} {t t' : TS} (h : PS X e t) (k : ∀ D σ H, t' D σ H → t D σ H) : PS X e t' := ⟨fun pins s σ H D I hw => h.run pins s σ H D I (k _ _ _ hw)⟩
theorem PSs.imp {X : Cx} {e : List Stmt} {t t' : TS} (h : PSs X e t) (k : ∀ D σ H, t' D σ H → t D σ H) : PSs X e t' := ⟨fun pins s σ H D I hw => h.run pins s σ H D I (k _ _ _ hw)⟩
theorem PA.imp {X : Cx} {e : List Expr} {t t' : TA} (h : PA X e t) (k : ∀ σ H Q, t' σ H Q → t σ H Q) : PA X e t' := ⟨fun pos pins s σ H Q I hw => h.run pos pins s σ H Q I (k _ _ _ hw)⟩
theorem OpR.imp {X : Cx} {f : Value → Value → Sem Value} {r r' : R2} (h : OpR X f r) (k : ∀ x y H Q, r' x y H Q → r x y H Q) : OpR X f r' := fun pins s σ H x y v u Q I rx ry hw => h pins s σ H x y v u Q I rx ry (k _ _ _ _ hw)
theorem OpR.frz {X : Cx} {f : Value → Value → Sem Value} {r : R2} (h : OpR X f r) : OpR X f (fun x y H Q => r x y H fun v H1 => FzTo v H1 Q) :=
  fun pins s σ H x y v u Q I rx ry hw => thn (h pins s σ H x y v u _ I rx ry hw) fun _ _ q => EP.frz q
theorem CallR.imp {X : Cx} {f : Value} {r r' : List V → Hp → VK → Prop} (h : CallR X f r) (k : ∀ xs H Q, r' xs H Q → r xs H Q) : CallR X f r' := fun pins s σ H xs us Q I rx hw => h pins s σ H xs us Q I rx (k _ _ _ hw)
theorem CallR.frz {X : Cx} {f : Value} {r : List V → Hp → VK → Prop} (h : CallR X f r) : CallR X f (fun xs H Q => r xs H fun v H1 => FzTo v H1 Q) :=
  fun pins s σ H xs us Q I rx hw => thn (h pins s σ H xs us _ I rx hw) fun _ _ q => EP.frz q
theorem FzTo.new {H : Hp} {p : Addr} {xs : List V} {Q : VK} (h : ∀ o, Q (.ref p) (upd H p (.frz o (.lst xs)))) : FzTo (.ref p) (upd H p (.lst xs)) Q :=
  ⟨p, xs, rfl, upd_same, fun o => by rw [upd_upd]; exact h o⟩
end MC
namespace MC
open PySem PySem.Spec L2

/-! ### what the operations give -/
mutual
def D.py : D → PyData
  | .non => .none
  | .bl b => .bool b
  | .int i => .int i
  | .str x => .str x
  | .tup l => .tuple (pys l)
  | .lst l => .list (pys l)
  | .dct _ _ _ => .dict []
  | .ins _ _ _ => .dict []
  | .fn _ => .dict []
  | .obj _ => .dict []
  | .scr _ => .dict []
  | .exc _ => .dict []
def pys : List D → List PyData
  | [] => []
  | d :: l => d.py :: pys l
end
def D.sh (d : D) : Bool := SeqAt.shaped d.py
/-- equality as Python has it -/
def eqD (a b : D) : Bool := PyData.eqv a.py b.py
def asInts : List D → Option (List Int)
  | [] => some []
  | .int i :: l => (asInts l).map (i :: ·)
  | _ :: _ => none
def asBools : List D → Option (List Bool)
  | [] => some []
  | .bl b :: l => (asBools l).map (b :: ·)
  | _ :: _ => none
def truth : D → Option Bool
  | .non => some false
  | .bl b => some b
  | .int i => some (i != 0)
  | .str x => if x.length ≤ sizeLine then some ((x.length : Int) != 0) else none
  | .tup l => some (!l.isEmpty)
  | .lst l => some (!l.isEmpty)
  | .scr ns => some (!ns.isEmpty)
  | _ => none
/-- keys of dicts -/
def keyOf : D → Option Key
  | .int i => some (.inl i)
  | .str x => some (.inr x)
  | _ => none
def keysOf : List D → Option (List Key)
  | [] => some []
  | d :: l => match keyOf d, keysOf l with
    | some k, some ks => some (k :: ks)
    | _, _ => none
def keyTOf : D → Option (List Key)
  | .tup l => keysOf l
  | _ => none
def lookK (k : Key) : List D → List D → Option D
  | z :: ks, v :: vs => if keyOf z = some k then some v else lookK k ks vs
  | _, _ => none
def lookT (k : List Key) : List D → List D → Option D
  | z :: ks, v :: vs => if keyTOf z = some k then some v else lookT k ks vs
  | _, _ => none
/-- d.get(x): nothing known, else what is found -/
def dLook (t : Bool) (ks vs : List D) (x : D) : Option (Option D) := match t with
  | false => (keyOf x).map fun k => lookK k ks vs
  | true => (keyTOf x).map fun k => lookT k ks vs
def replK (k : Key) (v : D) : List D → List D → List D
  | z :: ks, w :: vs => (if keyOf z = some k then v else w) :: replK k v ks vs
  | _, _ => []
def replT (k : List Key) (v : D) : List D → List D → List D
  | z :: ks, w :: vs => (if keyTOf z = some k then v else w) :: replT k v ks vs
  | _, _ => []
/-- d[x] = v -/
def dPut (t : Bool) (ks vs : List D) (x v : D) : Option (List D × List D) := if ks.length < sizeLine then match t with
    | false => (keyOf x).map fun k => if (lookK k ks vs).isSome then (ks, replK k v ks vs) else (ks ++ [x], vs ++ [v])
    | true => (keyTOf x).map fun k => if (lookT k ks vs).isSome then (ks, replT k v ks vs) else (ks ++ [x], vs ++ [v])
  else none
/-- dict(l), pair by pair -/
def dictOf (t : Bool) : List D → List D → List D → Option (List D × List D)
  | [], ks, vs => some (ks, vs)
  | .tup [k, v] :: l, ks, vs => (dPut t ks vs k v).bind fun p => dictOf t l p.1 p.2
  | _ :: _, _, _ => none
/-- x in y -/
def memD (x y : D) : Option Bool := match y with
  | .lst l => if x.sh && (D.lst l).sh then some (l.any fun z => eqD z x) else none
  | .tup l => if x.sh && (D.tup l).sh then some (l.any fun z => eqD z x) else none
  | .dct t ks vs => (dLook t ks vs x).map Option.isSome
  | _ => none
def lim : Int := 18446744073709551616
def opD : Op2 → D → D → Option D
  | .add, .int i, .int j => some (.int (i + j))
  | .add, .tup a, .tup b => if a.length + b.length ≤ sizeLine then some (.tup (a ++ b)) else none
  | .add, .lst a, .lst b => if a.length + b.length ≤ sizeLine then some (.lst (a ++ b)) else none
  | .add, .str a, .str b => if a.length + b.length ≤ sizeLine then some (.str (a ++ b)) else none
  | .sub, .int i, .int j => some (.int (i - j))
  | .mul, .int i, .int j => if (-lim < i ∧ i < lim) ∨ (-lim < j ∧ j < lim) then some (.int (i * j)) else none
  | .mul, .tup l, .int k => if -1000 ≤ k ∧ k ≤ 1000 ∧ l.length ≤ 1000 then some (.tup (List.replicate k.toNat l).flatten) else none
  | .mul, .lst l, .int k => if -1000 ≤ k ∧ k ≤ 1000 ∧ l.length ≤ 1000 then some (.lst (List.replicate k.toNat l).flatten) else none
  | .fdiv, .int i, .int j => if 0 < j ∧ j < 1073741824 then some (.int (i / j)) else none
  | .mod, .int i, .int j => if 0 < j then some (.int (i % j)) else none
  | .pow, .int i, .int j => if 0 ≤ j ∧ j ≤ 1000000 ∧ i.natAbs < 2 ^ 64 then some (.int (i ^ j.toNat)) else none
  | .eq, a, b => if a.sh && b.sh then some (.bl (eqD a b)) else none
  | .ne, a, b => if a.sh && b.sh then some (.bl (!eqD a b)) else none
  | .lt, .int i, .int j => some (.bl (decide (i < j)))
  | .lt, .tup a, .tup b => match asInts a, asInts b with
    | some x, some y => some (.bl (HT.lexLt x y))
    | _, _ => none
  | .le, .int i, .int j => some (.bl (decide (i ≤ j)))
  | .gt, .int i, .int j => some (.bl (decide (j < i)))
  | .ge, .int i, .int j => some (.bl (decide (j ≤ i)))
  | .mem, a, b => (memD a b).map .bl
  | .nmem, a, b => (memD a b).map fun c => .bl (!c)
  | .isN, a, .non => some (.bl (match a with | .non => true | _ => false))
  | .notN, a, .non => some (.bl (match a with | .non => false | _ => true))
  | .isB, .bl a, .bl b => some (.bl (decide (a = b)))
  | _, _, _ => none
def ixOf (a b : D) : Option D := match a, b with
  | .dct t ks vs, x => (dLook t ks vs x).join
  | .tup l, .int i => atI l i
  | .lst l, .int i => atI l i
  | .scr ns, .int i => (atI ns i).map .int
  | .str z, .int i => if z.length ≤ sizeLine then (atI z.cps.toList i).map fun c => .str ⟨#[c]⟩ else none
  | _, _ => none
def cutL {α : Type} (l : List α) (lo hi : Option Int) : List α := (l.drop (HT.sIx l.length 0 lo)).take (HT.sIx l.length l.length hi - HT.sIx l.length 0 lo)
def slOf (a : D) (lo hi : Option Int) : Option D := match a with
  | .tup l => some (.tup (cutL l lo hi))
  | .lst l => some (.lst (cutL l lo hi))
  | _ => none
def maxI : List Int → Int
  | [] => 0
  | [a] => a
  | a :: l => max a (maxI l)
def minI : List Int → Int
  | [] => 0
  | [a] => a
  | a :: l => min a (minI l)
def insB {α : Type} (lt : α → α → Bool) (x : α) : List α → List α
  | [] => [x]
  | y :: l => if lt y x then y :: insB lt x l else x :: y :: l
def sortB {α : Type} (lt : α → α → Bool) : List α → List α
  | [] => []
  | x :: l => insB lt x (sortB lt l)
/-- tuples of ints, none empty -/
def tupsOf : List D → Option (List (List Int))
  | [] => some []
  | .tup l :: r => match asInts l, tupsOf r with
    | some (a :: ns), some ts => some ((a :: ns) :: ts)
    | _, _ => none
  | _ :: _ => none
def intsD (ns : List Int) : D := .tup (ns.map .int)
def ltI (a b : Int) : Bool := decide (a < b)
def prD : Pr → List D → Option D
  | .len, [.tup l] => some (.int l.length)
  | .len, [.lst l] => some (.int l.length)
  | .len, [.scr l] => some (.int l.length)
  | .len, [.str x] => if x.length ≤ sizeLine then some (.int x.length) else none
  | .all, [.lst l] => (asBools l).map fun bs => .bl (bs.all id)
  | .any, [.lst l] => (asBools l).map fun bs => .bl (bs.any id)
  | .sum, [.lst l] => (asInts l).map fun ns => .int ns.sum
  | .sum, [.tup l] => (asInts l).map fun ns => .int ns.sum
  | .max, [.int i, .int j] => some (.int (max i j))
  | .min, [.int i, .int j] => some (.int (min i j))
  | .max, [.lst l] => match asInts l with
    | some (a :: r) => some (.int (maxI (a :: r)))
    | _ => none
  | .min, [.lst l] => match asInts l with
    | some (a :: r) => some (.int (minI (a :: r)))
    | _ => none
  | .sorted, [.lst l] => match asInts l with
    | some ns => some (.lst ((sortB ltI ns).map .int))
    | none => (tupsOf l).map fun ts => .lst ((sortB HT.lexLt ts).map intsD)
  | .sorted, [.dct true ks _] => (tupsOf ks).map fun ts => .lst ((sortB HT.lexLt ts).map intsD)
  | .tuple, [.lst l] => some (.tup l)
  | .tuple, [.tup l] => some (.tup l)
  | .dictK, [.lst l] => if l.length ≤ sizeLine then (dictOf false l [] []).map fun p => .dct false p.1 p.2 else none
  | .dictT, [.lst l] => if l.length ≤ sizeLine then (dictOf true l [] []).map fun p => .dct true p.1 p.2 else none
  | .list, [.lst l] => some (.lst l)
  | .list, [.tup l] => some (.lst l)
  | _, _ => none
def isTy : D → Ty → Option Bool
  | .non, _ => some false
  | .bl _, .bool => some true
  | .bl _, .int => some true
  | .bl _, _ => some false
  | .int _, .int => some true
  | .int _, _ => some false
  | .str _, .str => some true
  | .str _, _ => some false
  | .tup _, .tuple => some true
  | .tup _, _ => some false
  | .lst _, _ => some false
  | _, _ => none

/-! ### running -/
def slot (σ : List Sl) (i : Nat) : Sl := σ.getD i .un
def slotD (σ : List Sl) (i : Nat) : M D := match slot σ i with
  | .imm d => M.pure d
  | _ => M.fail
mutual
def put : Tg → D → List Sl → Option (List Sl)
  | .n i, d, σ => if i < σ.length then some (σ.set i (.imm d)) else none
  | .t l, .tup ds, σ => puts l ds σ
  | .t _, _, _ => none
def puts : List Tg → List D → List Sl → Option (List Sl)
  | [], [], σ => some σ
  | t :: l, d :: ds, σ => (put t d σ).bind (puts l ds)
  | _, _, _ => none
end
def rangeD (lo hi : Int) : List D := (List.range (hi - lo).toNat).map fun i => .int (lo + (i : Nat))
def enumFrom : Nat → List D → List D
  | _, [] => []
  | i, d :: l => .tup [.int (i : Nat), d] :: enumFrom (i + 1) l
def zipD : List D → List D → List D
  | a :: l, b :: m => .tup [a, b] :: zipD l m
  | _, _ => []
def lim62 : Int := 4611686018427387904
/-- the items of what is walked -/
def walkR : List D → Option (List D)
  | [.int j] => if -lim62 ≤ j ∧ j < lim62 ∧ j ≤ 16777216 then some (rangeD 0 j) else none
  | [.int i, .int j] => if (-lim62 ≤ i ∧ i < lim62) ∧ -lim62 ≤ j ∧ j < lim62 ∧ j - i ≤ 16777216 then some (rangeD i j) else none
  | _ => none
def walkE : D → Option (List D)
  | .tup l => some l
  | .lst l => some l
  | .dct _ ks _ => some ks
  | _ => none
def walkL : D → Option (List D)
  | .tup l => some l
  | .lst l => some l
  | _ => none
def walkZ : D → D → Option (List D)
  | .tup l, .tup m => some (zipD l m)
  | .lst l, .lst m => some (zipD l m)
  | _, _ => none
def asB : D → Option Bool
  | .bl b => some b
  | _ => none
/-- the arguments in the parameters' order -/
def permD (perm : List Nat) (ds : List D) : Option (List D) := perm.mapM fun i => ds[i]?
def clear : List Nat → List Sl → List Sl
  | [], σ => σ
  | i :: is, σ => clear is (σ.set i .un)
/-- no error leaves -/
def M.noex {α : Type} (m : M α) : M α := fun g => match m g with
  | some (.ex _, _) => none
  | r => r
@[simp] theorem M.noex_pure {α : Type} (a : α) : M.noex (M.pure a) = M.pure a := rfl
@[simp] theorem M.noex_fail {α : Type} : M.noex (M.fail : M α) = M.fail := rfl
/-- a comprehension's turns -/
def compL (tg : Tg) (test : List Sl → M Bool) (elt : List Sl → M D) (σ : List Sl) : List D → M (List D)
  | [] => M.pure []
  | d :: r => M.bind (M.opt (put tg d σ)) fun σ' => M.bind (test σ') fun t => match t with
    | true => M.bind (elt σ') fun x => M.bind (compL tg test elt σ r) fun xs => M.pure (x :: xs)
    | false => compL tg test elt σ r
/-- a changing list or dict as it stands -/
def seqS (σ : List Sl) (i : Nat) : M D := match slot σ i with
  | .ml l => M.pure (.lst l)
  | .md t ks vs => M.pure (.dct t ks vs)
  | _ => M.fail
def mdS (σ : List Sl) (i : Nat) : M D := match slot σ i with
  | .md t ks vs => M.pure (.dct t ks vs)
  | _ => M.fail
def dctOk : D → Option Unit
  | .dct _ _ _ => some ()
  | _ => none
def getDc (x y z : D) : Option D := match x with
  | .dct t ks vs => (dLook t ks vs y).map fun o => o.getD z
  | _ => none
def fieldAt (f : Str) : List Str → List D → Option D
  | x :: fs, v :: vs => if x = f then some v else fieldAt f fs vs
  | _, _ => none
def fldOf (c f : Str) : D → Option D
  | .ins c' fs vs => if c' = c then fieldAt f fs vs else none
  | _ => none
def methOf (c m : Str) : D → Option Unit
  | .ins c' fs _ => if c' = c ∧ m ∉ fs then some () else none
  | _ => none
def maxvD : D → Option D
  | .dct _ _ vs => match asInts vs with
    | some (a :: r) => some (.int (maxI (a :: r)))
    | _ => none
  | _ => none
def revD : D → Option D
  | .lst l => some (.lst l.reverse)
  | _ => none
/-- isinstance of an error -/
def isxD (ds : List Str) : D → Option D
  | .exc c => if (xnm.lookup c).isSome then some (.bl (ds.contains c)) else none
  | _ => none
def M.res (m : M D) : M D := fun g => match m g with
  | none => none
  | some (.ok d, g') => some (.ok (.tup [.str "returns", d]), g')
  | some (.ex c, g') => (xnm.lookup c).map fun x => (.ok (.tup [.str x]), g')
/-- what a lambda sees: nothing that its maker may still change -/
def immS : List Sl → List Sl
  | [] => []
  | .imm d :: r => .imm d :: immS r
  | _ :: r => .un :: immS r
/-- the pairs of a display of such tests -/
def xput (c : Str) : List (Str × Str × List Str) → List D → List D → Option (List D × List D)
  | [], ks, vs => some (ks, vs)
  | (k, _, ds) :: r, ks, vs => (dPut false ks vs (.str k) (.bl (ds.contains c))).bind fun p => xput c r p.1 p.2
/-- d.update(e) -/
def dMerge : List D → List D → List D → List D → Option (List D × List D)
  | k :: l, v :: m, ks, vs => (dPut false ks vs k v).bind fun p => dMerge l m p.1 p.2
  | _, _, ks, vs => some (ks, vs)
def newxS (σ : List Sl) (i j : Nat) (ps : List (Str × Str × List Str)) : Option (List Sl) := match slot σ j with
  | .imm (.exc c) => if (xnm.lookup c).isSome ∧ i < σ.length then (xput c ps [] []).bind fun p => some (σ.set i (.md false p.1 p.2)) else none
  | _ => none
def updxS (σ : List Sl) (i j : Nat) (ps : List (Str × Str × List Str)) : Option (List Sl) := match slot σ i, slot σ j with
  | .md false ks vs, .imm (.exc c) => if (xnm.lookup c).isSome ∧ ks.length + ps.length ≤ sizeLine then (xput c ps [] []).bind fun p => (dMerge p.1 p.2 ks vs).bind fun q => some (σ.set i (.md false q.1 q.2)) else none
  | _, _ => none
variable (Φ : Nat → List D → M D)
mutual
def ev : E → List Sl → M D
  | .var i, σ => slotD σ i
  | .cst d, _ => M.pure d
  | .con _ i, _ => M.pure (.int i)
  | .tup es, σ => M.bind (evs es σ) fun ds => M.pure (.tup ds)
  | .lst es, σ => M.bind (evs es σ) fun ds => M.pure (.lst ds)
  | .op o a b, σ => M.bind (ev a σ) fun x => M.bind (ev b σ) fun y => M.opt (opD o x y)
  | .chn o o' a b c, σ => M.bind (ev a σ) fun x => M.bind (ev b σ) fun y => M.bind (M.opt ((opD o x y).bind asB)) fun t => match t with
    | true => M.bind (ev c σ) fun z => M.opt (opD o' y z)
    | false => M.pure (.bl false)
  | .and es, σ => evAnd es σ
  | .or es, σ => evOr es σ
  | .not e, σ => M.bind (ev e σ) fun x => M.bind (M.opt (truth x)) fun t => M.pure (.bl (!t))
  | .neg e, σ => M.bind (ev e σ) fun x => match x with
    | .int i => M.pure (.int (-i))
    | _ => M.fail
  | .ife c a b, σ => M.bind (ev c σ) fun x => M.bind (M.opt (truth x)) fun t => match t with
    | true => ev a σ
    | false => ev b σ
  | .idx a b, σ => M.bind (ev a σ) fun x => M.bind (ev b σ) fun y => M.opt (ixOf x y)
  | .slc a lo hi, σ => M.bind (ev a σ) fun x => M.bind (evo lo σ) fun l => M.bind (evo hi σ) fun h => M.opt (slOf x l h)
  | .call f es, σ => M.bind (evs es σ) fun ds => Φ f ds
  | .callk f es ks perm, σ => M.bind (evs es σ) fun ds => M.bind (evk ks σ) fun zs => M.bind (M.opt (permD perm (ds ++ zs))) fun as => Φ f as
  | .prim p es, σ => M.bind (evs es σ) fun ds => M.opt (prD p ds)
  | .isi e t, σ => M.bind (ev e σ) fun x => M.opt ((isTy x t).map .bl)
  | .comp elt tg own it cs, σ => M.bind (evi it σ) fun items => M.bind (M.noex (compL tg (fun σ' => evt cs σ') (fun σ' => ev elt σ') (clear own σ) items)) fun ds => M.pure (.lst ds)
  | .at_ i e, σ => M.bind (seqS σ i) fun _ => M.bind (ev e σ) fun k => M.bind (seqS σ i) fun x => M.opt (ixOf x k)
  | .in_ neg e i, σ => M.bind (ev e σ) fun k => M.bind (mdS σ i) fun x => M.opt ((memD k x).map fun b => .bl (b != neg))
  | .get a b, σ => M.bind (ev a σ) fun x => M.bind (M.opt (dctOk x)) fun _ => M.bind (ev b σ) fun y => M.opt (getDc x y .non)
  | .get3 a b c, σ => M.bind (ev a σ) fun x => M.bind (M.opt (dctOk x)) fun _ => M.bind (ev b σ) fun y => M.bind (ev c σ) fun z => M.opt (getDc x y z)
  | .fld c a f, σ => M.bind (ev a σ) fun x => M.opt (fldOf c f x)
  | .make f es, σ => M.bind (evs es σ) fun ds => Φ f ds
  | .meth f c m a es, σ => M.bind (ev a σ) fun x => M.bind (M.opt (methOf c m x)) fun _ => M.bind (evs es σ) fun ds => Φ f (x :: ds)
  | .maxv a, σ => M.bind (ev a σ) fun x => M.opt (maxvD x)
  | .rev a, σ => M.bind (ev a σ) fun x => M.opt (revD x)
  | .rngl t es, σ => M.bind (evs es σ) fun ds => M.opt ((walkR ds).map fun l => if t then .tup l else .lst l)
  | .isx e c ds, σ => M.bind (ev e σ) fun x => M.opt (isxD ds x)
  | .res e, σ => M.res (ev e (immS σ))
def evs : List E → List Sl → M (List D)
  | [], _ => M.pure []
  | e :: es, σ => M.bind (ev e σ) fun d => M.bind (evs es σ) fun ds => M.pure (d :: ds)
def evk : List (Str × E) → List Sl → M (List D)
  | [], _ => M.pure []
  | (_, e) :: es, σ => M.bind (ev e σ) fun d => M.bind (evk es σ) fun ds => M.pure (d :: ds)
def evo : Option E → List Sl → M (Option Int)
  | none, _ => M.pure none
  | some e, σ => M.bind (ev e σ) fun x => match x with
    | .int i => M.pure (some i)
    | _ => M.fail
def evAnd : List E → List Sl → M D
  | [], _ => M.fail
  | [e], σ => ev e σ
  | e :: es, σ => M.bind (ev e σ) fun x => M.bind (M.opt (truth x)) fun t => match t with
    | true => evAnd es σ
    | false => M.pure x
def evOr : List E → List Sl → M D
  | [], _ => M.fail
  | [e], σ => ev e σ
  | e :: es, σ => M.bind (ev e σ) fun x => M.bind (M.opt (truth x)) fun t => match t with
    | true => M.pure x
    | false => evOr es σ
def evi : It → List Sl → M (List D)
  | .e e, σ => M.bind (ev e σ) fun x => M.opt (walkE x)
  | .rng es, σ => M.bind (evs es σ) fun ds => M.opt (walkR ds)
  | .enum e, σ => M.bind (ev e σ) fun x => M.opt ((walkL x).map (enumFrom 0))
  | .zip a b, σ => M.bind (ev a σ) fun x => M.bind (ev b σ) fun y => M.opt (walkZ x y)
def evt : List E → List Sl → M Bool
  | [], _ => M.pure true
  | [e], σ => M.bind (ev e σ) fun x => M.opt (truth x)
  | _ :: _ :: _, _ => M.fail
end

def setAll : List Nat → List D → List Sl → Option (List Sl)
  | [], [], σ => some σ
  | i :: is, d :: ds, σ => if i < σ.length then setAll is ds (σ.set i (.imm d)) else none
  | _, _, _ => none
def loopF (body : List Sl → M Flow') (tg : Tg) (tmp : List Nat) : List D → List Sl → M Flow'
  | [], σ => M.pure (.next σ)
  | d :: r, σ => M.bind (M.opt (put tg d σ)) fun σ1 => M.bind (body σ1) fun f => match f with
    | .next σ2 => loopF body tg tmp r (clear tmp σ2)
    | .cnt σ2 => loopF body tg tmp r (clear tmp σ2)
    | .brk σ2 => M.pure (.next (clear tmp σ2))
    | .ret x => M.pure (.ret x)
def whilF (c : List Sl → M Bool) (b : List Sl → M Flow') : Nat → List Sl → M Flow'
  | 0, _ => M.fail
  | n + 1, σ => M.bind (c σ) fun t => match t with
    | false => M.pure (.next σ)
    | true => M.bind (b σ) fun f => match f with
      | .next σ2 => whilF c b n σ2
      | .cnt σ2 => whilF c b n σ2
      | .brk σ2 => M.pure (.next σ2)
      | .ret x => M.pure (.ret x)
/-- op=, whole numbers alone -/
def augI : Op2 → D → D → Option D
  | .add, .int i, .int j => some (.int (i + j))
  | .sub, .int i, .int j => some (.int (i - j))
  | _, _, _ => none
def newS (σ : List Sl) (i : Nat) : D → M Flow'
  | .lst l => if i < σ.length then M.pure (.next (σ.set i (.ml l))) else M.fail
  | _ => M.fail
def setS (σ : List Sl) (i : Nat) (k v : D) : M Flow' := match slot σ i, k with
  | .ml l, .int n => match ixN l.length n with
    | some j => M.pure (.next (σ.set i (.ml (l.set j v))))
    | none => M.fail
  | _, _ => M.fail
def appS (σ : List Sl) (i : Nat) (v : D) : M Flow' := match slot σ i with
  | .ml l => if l.length < sizeLine then M.pure (.next (σ.set i (.ml (l ++ [v])))) else M.fail
  | _ => M.fail
def extS (σ : List Sl) (i : Nat) (v : D) : M Flow' := match slot σ i, v with
  | .ml l, .lst m => if l.length + m.length ≤ sizeLine then M.pure (.next (σ.set i (.ml (l ++ m)))) else M.fail
  | _, _ => M.fail
def fzS (σ : List Sl) (i : Nat) : M Flow' := match slot σ i with
  | .ml l => M.pure (.next (σ.set i (.imm (.lst l))))
  | .md t ks vs => M.pure (.next (σ.set i (.imm (.dct t ks vs))))
  | _ => M.fail
def getS (σ : List Sl) (i : Nat) (k : D) : M D := match slot σ i with
  | .ml l => M.opt (ixOf (.lst l) k)
  | _ => M.fail
def mlS (σ : List Sl) (i : Nat) : M (List D) := match slot σ i with
  | .ml l => M.pure l
  | _ => M.fail
/-- d[k] = v -/
def putS (σ : List Sl) (i : Nat) (k v : D) : M Flow' := match slot σ i with
  | .md t ks vs => M.bind (M.opt (dPut t ks vs k v)) fun p => M.pure (.next (σ.set i (.md t p.1 p.2)))
  | _ => M.fail
def popS (σ : List Sl) (i j : Nat) : M Flow' := match slot σ i with
  | .ml l => match l.getLast? with
    | some d => if j < σ.length then M.pure (.next ((σ.set i (.ml l.dropLast)).set j (.imm d))) else M.fail
    | none => M.fail
  | _ => M.fail
def mdOk : Bool → D → Option Unit
  | false, _ => some ()
  | true, .lst _ => some ()
  | true, _ => none
/-- m: the new list stays open for changes -/
def setM (σ : List Sl) (i : Nat) (m : Bool) (d : D) : M (List Sl) := if i < σ.length then match m with
    | false => M.pure (σ.set i (.imm d))
    | true => match d with
      | .lst l => M.pure (σ.set i (.ml l))
      | _ => M.fail
  else M.fail
variable (fuel : Nat)
mutual
def ex : S → List Sl → M Flow'
  | .asg tg e, σ => M.bind (ev Φ e σ) fun d => M.bind (M.opt (put tg d σ)) fun σ' => M.pure (.next σ')
  | .par is es, σ => M.bind (evs Φ es σ) fun ds => M.bind (M.opt (setAll is ds σ)) fun σ' => M.pure (.next σ')
  | .new i e, σ => M.bind (ev Φ e σ) (newS σ i)
  | .fz i, σ => fzS σ i
  | .clr is, σ => M.pure (.next (clear is σ))
  | .setix i k v, σ => M.bind (ev Φ v σ) fun d => M.bind (mlS σ i) fun _ => M.bind (ev Φ k σ) fun n => setS σ i n d
  | .augix i o k v, σ => M.bind (mlS σ i) fun _ => M.bind (ev Φ k σ) fun n => M.bind (getS σ i n) fun x => M.bind (ev Φ v σ) fun y => M.bind (M.opt (augI o x y)) fun z => setS σ i n z
  | .aug i o e, σ => M.bind (slotD σ i) fun x => M.bind (ev Φ e σ) fun y => M.bind (M.opt (augI o x y)) fun z => M.pure (.next (σ.set i (.imm z)))
  | .app i e, σ => M.bind (mlS σ i) fun _ => M.bind (ev Φ e σ) (appS σ i)
  | .ext i e, σ => M.bind (mlS σ i) fun _ => M.bind (ev Φ e σ) (extS σ i)
  | .ife c a b, σ => M.bind (ev Φ c σ) fun x => M.bind (M.opt (truth x)) fun t => match t with
    | true => exs a σ
    | false => exs b σ
  | .forr tg it b tmp, σ => M.bind (evi Φ it σ) fun items => loopF (fun σ' => exs b σ') tg tmp items σ
  | .whilL i b, σ => whilF (fun σ' => M.bind (mlS σ' i) fun l => M.pure (!l.isEmpty)) (fun σ' => exs b σ') fuel σ
  | .newd i t none, σ => if i < σ.length then M.pure (.next (σ.set i (.md t [] []))) else M.fail
  | .newd i t (some (k, v)), σ => M.bind (ev Φ k σ) fun x => M.bind (ev Φ v σ) fun y => M.bind (M.opt (dPut t [] [] x y)) fun p => if i < σ.length then M.pure (.next (σ.set i (.md t p.1 p.2))) else M.fail
  | .setk i k v, σ => M.bind (ev Φ v σ) fun d => M.bind (mdS σ i) fun _ => M.bind (ev Φ k σ) fun n => putS σ i n d
  | .pop i j, σ => popS σ i j
  | .newx i j ps, σ => M.bind (M.opt (newxS σ i j ps)) fun σ1 => M.pure (.next σ1)
  | .updx i j ps, σ => M.bind (M.opt (updxS σ i j ps)) fun σ1 => M.pure (.next σ1)
  | .par2 i j m1 m2 a b, σ => M.bind (ev Φ a σ) fun x => M.bind (M.opt (mdOk m1 x)) fun _ => M.bind (ev Φ b σ) fun y => M.bind (setM σ i m1 x) fun σ' => M.bind (setM σ' j m2 y) fun σ'' => M.pure (.next σ'')
  | .set2 i k1 k2 v1 v2, σ => M.bind (ev Φ v1 σ) fun x => M.bind (ev Φ v2 σ) fun y => M.bind (mlS σ i) fun _ => M.bind (ev Φ k1 σ) fun a => M.bind (setS σ i a x) fun f => match f with
    | .next σ1 => M.bind (mlS σ1 i) fun _ => M.bind (ev Φ k2 σ1) fun b => setS σ1 i b y
    | _ => M.fail
  | .whil c b, σ => whilF (fun σ' => M.bind (ev Φ c σ') fun x => M.opt (truth x)) (fun σ' => exs b σ') fuel σ
  | .ret e, σ => M.bind (ev Φ e σ) fun d => M.pure (.ret d)
  | .exp e, σ => M.bind (ev Φ e σ) fun _ => M.pure (.next σ)
  | .raise c, _ => M.exc c
  | .brk, σ => M.pure (.brk σ)
  | .cnt, σ => M.pure (.cnt σ)
def exs : List S → List Sl → M Flow'
  | [], σ => M.pure (.next σ)
  | s :: r, σ => M.bind (ex s σ) fun f => match f with
    | .next σ' => exs r σ'
    | f => M.pure f
end
/-- a def's body, from its arguments -/
def retD : Flow' → M D
  | .ret d => M.pure d
  | .next _ => M.pure .non
  | _ => M.fail
def body (b : List S) (n : Nat) (as : List D) : M D := M.bind (exs Φ fuel b (as.map Sl.imm ++ List.replicate n .un)) retD
end MC
namespace MC
open PySem PySem.Spec L2

def opSem : Op2 → Value → Value → Sem Value
  | .add => binaryOp .Add
  | .sub => binaryOp .Sub
  | .mul => binaryOp .Mult
  | .fdiv => binaryOp .FloorDiv
  | .mod => binaryOp .Mod
  | .pow => binaryOp .Pow
  | .eq => compareOp .Eq
  | .ne => compareOp .NotEq
  | .lt => compareOp .Lt
  | .le => compareOp .LtE
  | .gt => compareOp .Gt
  | .ge => compareOp .GtE
  | .mem => compareOp .In
  | .nmem => compareOp .NotIn
  | .isN => compareOp .Is
  | .notN => compareOp .IsNot
  | .isB => compareOp .Is
/-- an operation's reading over values -/
def rD2 (C : Cn) (f : D → D → Option D) : R2 := fun x y H Q => ∃ ρ dx dy d, Rep C ρ H dx x ∧ Rep C ρ H dy y ∧ f dx dy = some d ∧ ∀ v H', Grow H H' → Rep C ρ H' d v → Q v H'
section
variable {X : Cx} {C : Cn} {ρ : Rho} {H : Hp}
mutual
theorem rep_dp : ∀ {d : D} {v : V}, Rep C ρ H d v → d.py.canLay0 = true → Dp C.K H v d.py
  | .non, v, h, _ => by rw [show v = .non from h]; exact .non
  | .bl b, v, h, _ => by rw [show v = .bl b from h]; exact .bl b
  | .int i, v, h, _ => by rw [show v = .int i from h]; exact .int i
  | .str x, v, h, _ => by rw [show v = .str x from h]; exact .str x
  | .tup l, v, h, c => by
    obtain ⟨a, vs, rfl, q, r⟩ := h
    exact .tup (SqT.of q) (reps_dp r c)
  | .lst l, v, h, c => by
    obtain ⟨a, vs, rfl, q, r⟩ := h
    exact .lst (FzL.sq q) (reps_dp r c)
  | .dct _ _ _, v, h, c => nomatch c
  | .ins _ _ _, v, h, c => nomatch c
  | .fn _, v, h, c => nomatch c
  | .obj _, v, h, c => nomatch c
  | .scr _, v, h, c => nomatch c
  | .exc _, v, h, c => nomatch c
theorem reps_dp : ∀ {l : List D} {vs : List V}, Reps C ρ H l vs → PyData.canLayAll0 (pys l) = true → DpAll C.K H vs (pys l)
  | [], vs, h, _ => by rw [show vs = [] from h]; exact .nil
  | d :: l, vs, h, c => by
    obtain ⟨v, r, rfl, h1, h2⟩ := h
    have c' : (d.py.canLay0 && PyData.canLayAll0 (pys l)) = true := c
    obtain ⟨c1, c2⟩ := Bool.and_eq_true_iff.mp c'
    exact .cons (rep_dp h1 c1) (reps_dp h2 c2)
end
theorem sh_dp {d : D} {v : V} (h : Rep C ρ H d v) (s : d.sh = true) : Dp C.K H v d.py := rep_dp h (SeqAt.canLay_of_shaped s)
theorem asInts_rep : ∀ {l : List D} {ns : List Int} {vs : List V}, asInts l = some ns → Reps C ρ H l vs → vs = ns.map V.int
  | [], ns, vs, e, h => by
    cases (Option.some.inj e : [] = ns)
    exact h
  | d :: l, ns, vs, e, h => by
    obtain ⟨v, r, rfl, h1, h2⟩ := h
    cases d with
    | int i =>
      have e' : (asInts l).map (i :: ·) = some ns := e
      obtain ⟨ms, em, rfl⟩ := Option.map_eq_some_iff.mp e'
      rw [List.map_cons, ← asInts_rep em h2, show v = .int i from h1]
    | _ => cases e
theorem asBools_rep : ∀ {l : List D} {ns : List Bool} {vs : List V}, asBools l = some ns → Reps C ρ H l vs → vs = ns.map V.bl
  | [], ns, vs, e, h => by
    cases (Option.some.inj e : [] = ns)
    exact h
  | d :: l, ns, vs, e, h => by
    obtain ⟨v, r, rfl, h1, h2⟩ := h
    cases d with
    | bl i =>
      have e' : (asBools l).map (i :: ·) = some ns := e
      obtain ⟨ms, em, rfl⟩ := Option.map_eq_some_iff.mp e'
      rw [List.map_cons, ← asBools_rep em h2, show v = .bl i from h1]
    | _ => cases e

/-! ### lists that stand still: + and * -/
/-- a list, changing or not -/
def LsH (H : Hp) (l : Addr) (xs : List V) : Prop := H l = some (.lst xs) ∨ FzL H l xs
theorem lsM {pins : List (Addr × Obj)} {σ : L2.St} {s : Shared} {l : Addr} {xs : List V} (I : L2.Inv X pins σ H s) (h : LsH H l xs) : xs.length ≤ sizeLine ∧ ∃ (its : List Value) (n : Nat), Vals xs its ∧ xs.length = its.length ∧ s.heap.get? l = some { cls := .type "list", data := .seq its.toArray n } := by
  rcases h with h | ⟨o, h⟩
  · exact I.lstM h
  · obtain ⟨e, hz, its, n, r, e2⟩ := (show ObjOk X.prog X.w H s.heap l (.frz o (.lst xs)) from I.hok l _ h)
    exact ⟨hz, its, n, r, r.length, e2⟩
def rCatF : R2 := fun x y H Q => ∃ l b xs zs, x = .ref l ∧ y = .ref b ∧ LsH H l xs ∧ LsH H b zs ∧ xs.length + zs.length ≤ sizeLine ∧ ∀ p, H p = none → Q (.ref p) (upd H p (.lst (xs ++ zs)))
open PyProof.Rows in
theorem op_catF : OpR X (binaryOp .Add) rCatF := by
  intro pins s σ H x y v u Q I rx ry h
  obtain ⟨l, b, xs, zs, rfl, rfl, hH, hB, hz, q⟩ := h
  cases rx
  cases ry
  obtain ⟨z, its, n, r, hl, e⟩ := lsM I hH
  obtain ⟨z2, its2, n2, r2, hl2, e2⟩ := lsM I hB
  refine PySem.P.add_list e e2 ?_ (by rw [List.size_toArray, List.size_toArray]; omega)
  have ea : its.toArray ++ its2.toArray = (its ++ its2).toArray := by simp
  rw [ea]
  exact ⟨.ref _, _, I.lnew (t' := s.toks) (r.append r2) (by rw [List.length_append]; omega), rfl, q _ I.fresh⟩
def rRepF : R2 := fun x y H Q => ∃ l k xs, x = .ref l ∧ y = .int k ∧ LsH H l xs ∧ -1000 ≤ k ∧ k ≤ 1000 ∧ xs.length ≤ 1000 ∧
  ∀ p, H p = none → Q (.ref p) (upd H p (.lst (List.replicate k.toNat xs).flatten))
open PyProof.Rows in
theorem op_repF : OpR X (binaryOp .Mult) rRepF := by
  intro pins s σ H x y v u Q I rx ry h
  obtain ⟨l, k, xs, rfl, rfl, hH, h1, h2, hx, q⟩ := h
  cases rx
  obtain ⟨t, rfl⟩ := ry
  obtain ⟨z, its, n, r, hl, e⟩ := lsM I hH
  have hz : xs.length * k.toNat ≤ sizeLine := by
    rw [sizeLine_eq]
    have a1 : xs.length * k.toNat ≤ 1000 * 1000 := Nat.mul_le_mul hx (by omega)
    omega
  have hlen : its.toArray.size * k.toNat ≤ sizeLine := by rw [List.size_toArray, ← hl]; exact hz
  have hcap : ¬ its.toArray.size * k.toNat > (2 ^ 63 - 1) / 8 := by
    have : (sizeLine : Nat) ≤ (2 ^ 63 - 1) / 8 := by decide
    omega
  have hfit : ¬ (!Builtin.List.listFitsIndex k) = true := by
    rw [fitsIndex_both (by omega) (by omega)]
    exact Bool.false_ne_true
  have hlong : ¬ Builtin.List.listTooLong (its.toArray.size * k.toNat) = true := by
    rw [notLongL hlen]
    exact Bool.false_ne_true
  have hnew : List.foldl (fun x1 x2 => x1 ++ x2) #[] (List.replicate (if its.toArray.isEmpty = true then 0 else k.toNat) its.toArray) = (List.replicate k.toNat its).flatten.toArray := by
    have f0 : ∀ m : Nat, List.foldl (fun x1 x2 => x1 ++ x2) #[] (List.replicate m its.toArray) = (List.replicate m its).flatten.toArray := fun m => by
      have := foldl_rep its m []
      rw [List.nil_append] at this
      exact this
    rw [f0]
    cases its with
    | nil => simp
    | cons a r' => rw [if_neg (by simp)]
  refine wpAny_binaryOp_repeat_ref (T := "list") (U := "int") (by decide) ⟨_, e, rfl⟩ (fun s' => typeIs_int s' k t) noFill_list_mul F.fills_int_mul F.slot_int_rmul repeat_list F.slot_int_index.lookup
    (call_meets F.slot_int_rmul (typeIs_int s k t) F.entry_int_rmul (F.args_int_rmul_2 _ _) (int___rmul___int_list k t l its.toArray n)
      ⟨e, rfl, ⟨_, e, rfl⟩, call_meets F.slot_list_mul ⟨_, e, rfl⟩ F.entry_list_mul (F.args_list_mul_2 _ _) (AutoListH.list___mul___list_int_3 l its.toArray n k t hfit hcap hlong) ⟨e, ?_⟩⟩)
  rw [hnew]
  exact ⟨.ref _, _, I.lnew (t' := s.toks) (r.rep k.toNat) (by rw [PyProof.Rows.lm_len_rep_flat, Nat.mul_comm]; exact hz), rfl, q _ I.fresh⟩
end
end MC
namespace MC
open PySem PySem.Spec L2
open PyProof.Rows in
theorem tuple_mul1 (l : Addr) (items : Array Value) (n : Nat) (dd : Option Addr) (sl : Array (Option Value)) (x : Int) (u : Tok) (c0 : (decide (x < -(2 ^ 63)) || decide (x ≥ 2 ^ 63)) = false) (c1 : (items.isEmpty || x == 1) = true) :
    Meets (Builtin.«tuple.__mul__» ⟨[.ref l, .int x u], []⟩) (fun _ R s => s.heap.get? l = some { cls := .type "tuple", dict := dd, data := .seq items n, slots := sl } ∧
      R (.ok (.ret (Value.ref l))) s) :=
  .of_wp fun prog w A R s h => by
    obtain ⟨hp, g, d, tk, os⟩ := s
    obtain ⟨hl, h⟩ := h
    have f1 := AutoSeq1.idx_int
    wp_walk using wpAny_loadPart' hl
    repeat (first
      | (refine wpAny_ite_false (decide_eq_false (by rw [c0]; exact Bool.false_ne_true)) ?_; wp_walk using wpAny_loadPart' hl)
      | (refine wpAny_ite_true (decide_eq_true (by rw [c1])) ?_; wp_walk using wpAny_loadPart' hl))
    exact ⟨_, rfl, h⟩
open PyProof.Rows in
theorem tuple_mul0 (l : Addr) (items : Array Value) (n : Nat) (dd : Option Addr) (sl : Array (Option Value)) (x : Int) (u : Tok) (c0 : (decide (x < -(2 ^ 63)) || decide (x ≥ 2 ^ 63)) = false) (c1 : (items.isEmpty || x == 1) = false) (c2 : (decide (x ≤ 0) || items.isEmpty) = true) :
    Meets (Builtin.«tuple.__mul__» ⟨[.ref l, .int x u], []⟩) (fun _ R s => s.heap.get? l = some { cls := .type "tuple", dict := dd, data := .seq items n, slots := sl } ∧
      R (.ok (.ret (Value.ref s.heap.objs.size))) { s with heap := s.heap.push { cls := Value.type "tuple", data := Data.seq #[] }, toks := s.toks }) :=
  .of_wp fun prog w A R s h => by
    obtain ⟨hp, g, d, tk, os⟩ := s
    obtain ⟨hl, h⟩ := h
    have f1 := AutoSeq1.idx_int
    wp_walk using wpAny_loadPart' hl
    repeat (first
      | (refine wpAny_ite_false (decide_eq_false (by rw [c0]; exact Bool.false_ne_true)) ?_; wp_walk using wpAny_loadPart' hl)
      | (refine wpAny_ite_false (decide_eq_false (by rw [c1]; exact Bool.false_ne_true)) ?_; wp_walk using wpAny_loadPart' hl)
      | (refine wpAny_ite_true (decide_eq_true (by rw [c2])) ?_; wp_walk using wpAny_loadPart' hl)
      | (refine wpAny_ite_false (decide_eq_false (Nat.not_lt.mpr (Nat.zero_le _))) ?_; wp_walk using wpAny_loadPart' hl))
    exact ⟨_, rfl, h⟩
end MC
namespace MC
open PySem PySem.Spec L2
section
variable {X : Cx} {C : Cn}
def rRepTF (K : PySem.W.Frag) : R2 := fun x y H Q => ∃ l k xs, x = .ref l ∧ y = .int k ∧ TpH H l xs ∧ -1000 ≤ k ∧ k ≤ 1000 ∧ xs.length ≤ 1000 ∧
  ∀ v H', Grow H H' → (∃ p, v = .ref p ∧ TpH H' p (List.replicate k.toNat xs).flatten) → Q v H'
theorem flat1 {α : Type} (xs : List α) : (List.replicate 1 xs).flatten = xs := by simp
theorem flat_nil {α : Type} (n : Nat) : (List.replicate n ([] : List α)).flatten = [] := by
  induction n with
  | zero => rfl
  | succ n ih => rw [List.replicate_succ, List.flatten_cons, ih]; rfl
open PyProof.Rows in
theorem op_repTF : OpR X (binaryOp .Mult) (rRepTF X.K) := by
  intro pins s σ H x y v u Q I rx ry h
  obtain ⟨l, k, xs, rfl, rfl, hT, h1, h2, hz, q⟩ := h
  by_cases hk : xs ≠ [] ∧ 2 ≤ k
  · exact op_repT pins s σ H _ _ v u Q I rx ry ⟨l, k, xs, rfl, rfl, SqT.of hT, hk.1, hk.2, h2, hz, fun p hp => q _ _ (Grow.upd hp) ⟨p, rfl, upd_same⟩⟩
  · cases rx
    obtain ⟨t, rfl⟩ := ry
    obtain ⟨its, r, ⟨⟨cls, dd, data, sl⟩, ho, hc, n, hd⟩, hs⟩ := I.tuple (SqT.of hT)
    simp only at hc hd
    subst hc hd
    have c0 : (decide (k < -(2 ^ 63)) || decide (k ≥ 2 ^ 63)) = false := by
      rw [decide_eq_false (by omega), decide_eq_false (by omega)] <;> rfl
    have hle : its.length = xs.length := r.length.symm
    by_cases h0 : (its.toArray.isEmpty || k == 1) = true
    · refine wpAny_binaryOp_repeat_ref (T := "tuple") (U := "int") (by decide) ⟨_, ho, rfl⟩ (fun s' => typeIs_int s' k t) noFill_tuple_mul F.fills_int_mul F.slot_int_rmul repeat_tuple F.slot_int_index.lookup
        (call_meets F.slot_int_rmul (typeIs_int s k t) F.entry_int_rmul (F.args_int_rmul_2 _ _) (int_rmul_tuple k t l its.toArray n dd sl)
          ⟨ho, rfl, ⟨_, ho, rfl⟩, call_meets F.slot_tuple_mul ⟨_, ho, rfl⟩ F.entry_tuple_mul (F.args_tuple_mul_2 _ _) (tuple_mul1 l its.toArray n dd sl k t c0 h0) ⟨ho, ?_⟩⟩)
      refine ⟨.ref l, H, I, rfl, q _ _ (Grow.refl _) ⟨l, rfl, ?_⟩⟩
      have e : (List.replicate k.toNat xs).flatten = xs := by
        rcases Bool.or_eq_true_iff.mp h0 with z | z
        · have : xs = [] := by
            cases its with
            | nil => cases r; rfl
            | cons a b => exact absurd z (by simp)
          rw [this, flat_nil]
        · have : k = 1 := by simpa using z
          rw [this]
          exact flat1 xs
      rw [e]
      exact hT
    · have h0 : (its.toArray.isEmpty || k == 1) = false := by simpa using h0
      obtain ⟨e1, e2⟩ := Bool.or_eq_false_iff.mp h0
      have hx : xs ≠ [] := fun z => by
        subst z
        cases r
        exact absurd e1 (by simp)
      have k1 : k ≠ 1 := by simpa using e2
      have k0 : k ≤ 0 := by
        have : ¬ 2 ≤ k := fun z => hk ⟨hx, z⟩
        omega
      have c2 : (decide (k ≤ 0) || its.toArray.isEmpty) = true := by rw [decide_eq_true k0]; rfl
      refine wpAny_binaryOp_repeat_ref (T := "tuple") (U := "int") (by decide) ⟨_, ho, rfl⟩ (fun s' => typeIs_int s' k t) noFill_tuple_mul F.fills_int_mul F.slot_int_rmul repeat_tuple F.slot_int_index.lookup
        (call_meets F.slot_int_rmul (typeIs_int s k t) F.entry_int_rmul (F.args_int_rmul_2 _ _) (int_rmul_tuple k t l its.toArray n dd sl)
          ⟨ho, rfl, ⟨_, ho, rfl⟩, call_meets F.slot_tuple_mul ⟨_, ho, rfl⟩ F.entry_tuple_mul (F.args_tuple_mul_2 _ _) (tuple_mul0 l its.toArray n dd sl k t c0 h0 c2) ⟨ho, ?_⟩⟩)
      refine ⟨.ref s.heap.objs.size, _, I.laid (t' := s.toks) (o := .tup []) (fun b ob q => Heap.get?_push_of_some _ q) (Nat.le_refl _) ⟨Nat.zero_le _, [], .nil, IsTup.new _ _⟩, rfl, q _ _ (Grow.upd (I.hok.fresh (Nat.le_refl _))) ⟨_, rfl, ?_⟩⟩
      have e : k.toNat = 0 := by omega
      rw [e]
      exact upd_same
/-! ### in -/
open PyProof.Rows in
theorem op_inDT (hu : X.A.units + 65 < cLine) : OpR X (compareOp .In) (fun x y H Q => ∃ d ds, Dp X.K H x d ∧ Dp X.K H y (.tuple ds) ∧ SeqAt.shaped d = true ∧ SeqAt.shaped (.tuple ds) = true ∧ Q (.bl (ds.any fun z => PyData.eqv z d)) H) := by
  intro pins s σ H x y v u Q I rx ry h
  obtain ⟨d, ds, hd, he, sd, se, q⟩ := h
  obtain ⟨as, r1⟩ := Dp.reads I d x v hd rx
  obtain ⟨bs, r2⟩ := Dp.reads I (.tuple ds) y u he ry
  exact SeqAt.in_tuple_reads r2 r1 (SeqAt.canLay_of_shaped se) (SeqAt.canLay_of_shaped sd) (room_in_shaped sd hu) ⟨.bl _, H, I, rfl, q⟩
open PyProof.Rows in
theorem op_notInDT (hu : X.A.units + 65 < cLine) : OpR X (compareOp .NotIn) (fun x y H Q => ∃ d ds, Dp X.K H x d ∧ Dp X.K H y (.tuple ds) ∧ SeqAt.shaped d = true ∧ SeqAt.shaped (.tuple ds) = true ∧ Q (.bl (!ds.any fun z => PyData.eqv z d)) H) := by
  intro pins s σ H x y v u Q I rx ry h
  obtain ⟨d, ds, hd, he, sd, se, q⟩ := h
  obtain ⟨as, r1⟩ := Dp.reads I d x v hd rx
  obtain ⟨bs, r2⟩ := Dp.reads I (.tuple ds) y u he ry
  exact SeqAt.notIn_tuple_reads r2 r1 (SeqAt.canLay_of_shaped se) (SeqAt.canLay_of_shaped sd) (room_in_shaped sd hu) ⟨.bl _, H, I, rfl, q⟩
end
end MC
namespace MC
open PySem PySem.Spec L2
/-! ### dicts -/
/-- what a dict's object holds -/
def DcR (C : Cn) (ρ : Rho) (H : Hp) (t : Bool) (ks ds : List D) (u : HO) : Prop := (t = false ∧ ∃ kvs : List (Key × V), u = .dK kvs ∧ ks = kvs.map (fun p => keyD p.1) ∧ Reps C ρ H ds (kvs.map (·.2))) ∨
  (t = true ∧ ∃ kvs : List (List Key × V), u = .dT kvs ∧ ks = kvs.map (fun p => keyTD p.1) ∧ Reps C ρ H ds (kvs.map (·.2)))
section
variable {C : Cn} {ρ ρ' : Rho} {H H' : Hp} {t : Bool} {ks ds : List D} {u : HO} {v : V}
theorem rep_dct (h : Rep C ρ H (.dct t ks ds) v) : ∃ a o u, v = .ref a ∧ H a = some (.frz o u) ∧ DcR C ρ H t ks ds u := by
  obtain ⟨a, o, e, h⟩ := h
  rcases h with ⟨et, kvs, q, ek, r⟩ | ⟨et, kvs, q, ek, r⟩
  · exact ⟨a, o, _, e, q, .inl ⟨et, kvs, rfl, ek, r⟩⟩
  · exact ⟨a, o, _, e, q, .inr ⟨et, kvs, rfl, ek, r⟩⟩
theorem dct_rep {a : Addr} {o : Obj} (q : H a = some (.frz o u)) (h : DcR C ρ H t ks ds u) : Rep C ρ H (.dct t ks ds) (.ref a) := by
  refine ⟨a, o, rfl, ?_⟩
  rcases h with ⟨et, kvs, rfl, ek, r⟩ | ⟨et, kvs, rfl, ek, r⟩
  · exact .inl ⟨et, kvs, q, ek, r⟩
  · exact .inr ⟨et, kvs, q, ek, r⟩
theorem DcR.to (h : DcR C ρ H t ks ds u) (k : Keeps C.K H H') (pre : ρ <+: ρ') : DcR C ρ' H' t ks ds u := by
  rcases h with ⟨et, kvs, rfl, ek, r⟩ | ⟨et, kvs, rfl, ek, r⟩
  · exact .inl ⟨et, kvs, rfl, ek, r.to k pre⟩
  · exact .inr ⟨et, kvs, rfl, ek, r.to k pre⟩
theorem DcR.nc (h : DcR C ρ H t ks ds u) : ¬ isCd u := by
  rcases h with ⟨et, kvs, rfl, ek, r⟩ | ⟨et, kvs, rfl, ek, r⟩ <;> exact fun z => z
theorem DcR.nt (h : DcR C ρ H t ks ds u) : ¬ isTbl u := by
  rcases h with ⟨et, kvs, rfl, ek, r⟩ | ⟨et, kvs, rfl, ek, r⟩ <;> exact fun z => z
theorem DcR.len (h : DcR C ρ H t ks ds u) : ds.length = ks.length := by
  rcases h with ⟨et, kvs, rfl, rfl, r⟩ | ⟨et, kvs, rfl, rfl, r⟩
  · rw [← r.len, List.length_map, List.length_map]
  · rw [← r.len, List.length_map, List.length_map]
theorem keyOf_D (k : Key) : keyOf (keyD k) = some k := by cases k <;> rfl
theorem keyD_of {x : D} {k : Key} (h : keyOf x = some k) : x = keyD k := by
  cases x with
  | int i => cases (Option.some.inj h : Sum.inl i = k); rfl
  | str i => cases (Option.some.inj h : Sum.inr i = k); rfl
  | _ => cases h
theorem keysOf_D : ∀ ks : List Key, keysOf (ks.map keyD) = some ks
  | [] => rfl
  | k :: ks => by
    show (match keyOf (keyD k), keysOf (ks.map keyD) with
      | some k, some ks => some (k :: ks)
      | _, _ => none) = _
    rw [keyOf_D, keysOf_D ks]
theorem keysD_of : ∀ {l : List D} {ks : List Key}, keysOf l = some ks → l = ks.map keyD
  | [], ks, h => by cases (Option.some.inj h : [] = ks); rfl
  | d :: l, ks, h => by
    have h : (match keyOf d, keysOf l with
      | some k, some ks => some (k :: ks)
      | _, _ => none) = some ks := h
    split at h
    · rename_i k ks' h1 h2
      cases h
      rw [List.map_cons, ← keyD_of h1, ← keysD_of h2]
    · cases h
theorem keyTOf_D (ks : List Key) : keyTOf (keyTD ks) = some ks := keysOf_D ks
theorem keyTD_of {x : D} {k : List Key} (h : keyTOf x = some k) : x = keyTD k := by
  cases x with
  | tup l => rw [show l = k.map keyD from keysD_of h]; rfl
  | _ => cases h
theorem rep_key {k : Key} {y : V} (h : Rep C ρ H (keyD k) y) : y = kV k := by cases k <;> exact h
theorem key_rep (k : Key) : Rep C ρ H (keyD k) (kV k) := by cases k <;> rfl
theorem reps_keys : ∀ {ks : List Key} {ys : List V}, Reps C ρ H (ks.map keyD) ys → ys = ks.map kV
  | [], ys, h => h
  | k :: ks, ys, h => by
    obtain ⟨y, r, rfl, h1, h2⟩ := h
    rw [rep_key h1, reps_keys h2]
    rfl
theorem keys_reps : ∀ (ks : List Key), Reps C ρ H (ks.map keyD) (ks.map kV)
  | [] => rfl
  | k :: ks => ⟨_, _, rfl, key_rep k, keys_reps ks⟩
theorem rep_keyT {k : List Key} {y : V} (h : Rep C ρ H (keyTD k) y) : ∃ b, y = .ref b ∧ H b = some (.tup (k.map kV)) := by
  obtain ⟨b, vs, rfl, q, r⟩ := h
  rw [reps_keys r] at q
  exact ⟨b, rfl, q⟩
theorem lookK_val (k : Key) : ∀ {kvs : List (Key × V)} {ds : List D}, Reps C ρ H ds (kvs.map (·.2)) → match lookK k (kvs.map fun p => keyD p.1) ds with
    | none => valV kvs k = none
    | some d => ∃ w, valV kvs k = some w ∧ Rep C ρ H d w
  | [], ds, h => by cases ds <;> exact rfl
  | p :: kvs, ds, h => by
    cases ds with
    | nil => cases h
    | cons d ds =>
      obtain ⟨v, r, e, h1, h2⟩ := h
      cases e
      show match (if keyOf (keyD p.1) = some k then some d else lookK k (kvs.map fun p => keyD p.1) ds) with
        | none => valV (p :: kvs) k = none
        | some d => ∃ w, valV (p :: kvs) k = some w ∧ Rep C ρ H d w
      rw [keyOf_D]
      by_cases e : p.1 = k
      · rw [if_pos (by rw [e]), valV_pos e]
        exact ⟨_, rfl, h1⟩
      · rw [if_neg (fun z => e (Option.some.inj z)), valV_neg e]
        exact lookK_val k h2
theorem lookT_val (k : List Key) : ∀ {kvs : List (List Key × V)} {ds : List D}, Reps C ρ H ds (kvs.map (·.2)) → match lookT k (kvs.map fun p => keyTD p.1) ds with
    | none => valV kvs k = none
    | some d => ∃ w, valV kvs k = some w ∧ Rep C ρ H d w
  | [], ds, h => by cases ds <;> exact rfl
  | p :: kvs, ds, h => by
    cases ds with
    | nil => cases h
    | cons d ds =>
      obtain ⟨v, r, e, h1, h2⟩ := h
      cases e
      show match (if keyTOf (keyTD p.1) = some k then some d else lookT k (kvs.map fun p => keyTD p.1) ds) with
        | none => valV (p :: kvs) k = none
        | some d => ∃ w, valV (p :: kvs) k = some w ∧ Rep C ρ H d w
      rw [keyTOf_D]
      by_cases e : p.1 = k
      · rw [if_pos (by rw [e]), valV_pos e]
        exact ⟨_, rfl, h1⟩
      · rw [if_neg (fun z => e (Option.some.inj z)), valV_neg e]
        exact lookT_val k h2
/-- what is found -/
def Fnd (C : Cn) (ρ : Rho) (H : Hp) (o : Option D) (r : Option V) : Prop := match o with
  | none => r = none
  | some d => ∃ w, r = some w ∧ Rep C ρ H d w
theorem Fnd.isSome {o : Option D} {r : Option V} (h : Fnd C ρ H o r) : r.isSome = o.isSome := by
  cases o with
  | none => rw [show r = none from h]; rfl
  | some d => obtain ⟨w, rfl, _⟩ := h; rfl
theorem look_get {a : Addr} {x : D} {y : V} {o : Option D} (rd : Rd H a u) (h : DcR C ρ H t ks ds u) (rx : Rep C ρ H x y) (e : dLook t ks ds x = some o) : ∃ r, DGet H a y r ∧ Fnd C ρ H o r := by
  rcases h with ⟨et, kvs, rfl, rfl, r⟩ | ⟨et, kvs, rfl, rfl, r⟩
  · subst et
    obtain ⟨k, ek, e⟩ := Option.map_eq_some_iff.mp (show (keyOf x).map (fun k => lookK k _ ds) = some o from e)
    rw [keyD_of ek] at rx
    refine ⟨valV kvs k, .inl ⟨kvs, k, rd, rep_key rx, rfl⟩, ?_⟩
    have := lookK_val k r
    rw [e] at this
    cases o <;> exact this
  · subst et
    obtain ⟨k, ek, e⟩ := Option.map_eq_some_iff.mp (show (keyTOf x).map (fun k => lookT k _ ds) = some o from e)
    rw [keyTD_of ek] at rx
    obtain ⟨b, rfl, hb⟩ := rep_keyT rx
    refine ⟨valV kvs k, .inr ⟨kvs, k, b, rd, rfl, hb, rfl⟩, ?_⟩
    have := lookT_val k r
    rw [e] at this
    cases o <;> exact this
theorem DcR.isD {a : Addr} (rd : Rd H a u) (h : DcR C ρ H t ks ds u) : IsD H a := by
  rcases h with ⟨et, kvs, rfl, rfl, r⟩ | ⟨et, kvs, rfl, rfl, r⟩
  · exact .inl ⟨kvs, rd⟩
  · exact .inr ⟨kvs, rd⟩
end
/-! ### d[k] -/
section
variable {X : Cx}
open PyProof.Rows in
theorem ix_dict (hu : X.A.units + 1 < cLine) : IxR X (fun x y H Q => ∃ a v, x = .ref a ∧ DGet H a y (some v) ∧ Q v H) := by
  intro value slice pins s σ H x y v u Q I rx ry h hs
  obtain ⟨a, z, rfl, g, q⟩ := h
  obtain rfl : v = Value.ref a := rx
  have hT := dict_typeIs I g
  unfold subscriptTail
  refine wpAny_bind ?_
  rw [getitemInPython_of_ne hT.not_modules]
  refine wpAny_bind (wpAny_specialOf hT PySem.F.slot_dict_getitem.lookup ?_)
  have fin : wpAny (model X.prog X.w) X.A (subscripted slice false (.ref a) u) (fun r s₃ => wpAny (model X.prog X.w) X.A (letTemporaryGo value (.ref a) r >>= fun _ => pure r) (EP X pins σ Q) X.xe s₃) X.xe s := by
    rw [hs]
    exact wpAny_operating (wpAny_mono (d_getItem (Q := EP X pins σ Q) hu I g ry fun w' s3 I3 rw' => ⟨z, H, I3, rw', q⟩) (fun r s₃ h₃ => wpAny_bind (wpAny_letTemporaryGo (wpAny_pure h₃))) fun _ _ x => x)
  first
    | exact wpAny_pure (wpAny_bind fin)
    | exact wpAny_bind (wpAny_pure (wpAny_bind fin))
    | exact wpAny_bind fin
theorem ix_or {r r' : R2} (h : IxR X r) (h' : IxR X r') : IxR X (fun x y H Q => r x y H Q ∨ r' x y H Q) := by
  intro value slice pins s σ H x y v u Q I rx ry hw hs
  rcases hw with hw | hw
  · exact h value slice pins s σ H x y v u Q I rx ry hw hs
  · exact h' value slice pins s σ H x y v u Q I rx ry hw hs
end
/-! ### in, not in -/
section
variable {X : Cx}
theorem op_dIn (hu : X.A.units + 65 < cLine) : OpR X (compareOp .In) (fun x y H Q => ∃ a o, y = .ref a ∧ DGet H a x o ∧ Q (.bl o.isSome) H) := by
  intro pins s σ H x y v u Q I rx ry h
  obtain ⟨a, o, rfl, g, q⟩ := h
  cases ry
  exact d_in (by omega) I g rx fun s' I' => ⟨.bl _, H, I', rfl, q⟩
theorem op_dNotIn (hu : X.A.units + 65 < cLine) : OpR X (compareOp .NotIn) (fun x y H Q => ∃ a o, y = .ref a ∧ DGet H a x o ∧ Q (.bl (!o.isSome)) H) := by
  intro pins s σ H x y v u Q I rx ry h
  obtain ⟨a, o, rfl, g, q⟩ := h
  cases ry
  exact d_notIn (by omega) I g rx fun s' I' => ⟨.bl _, H, I', rfl, q⟩
end
end MC
namespace MC
open PySem PySem.Spec PyProof.Rows L2
section
variable {C : Cn} {ρ : Rho} {H : Hp} {t : Bool} {ks ds : List D} {u : HO}
theorem lookK_any (k : Key) : ∀ (kvs : List (Key × V)) {ds : List D}, ds.length = kvs.length → (lookK k (kvs.map fun p => keyD p.1) ds).isSome = kvs.any fun kv => decide (kv.1 = k)
  | [], ds, _ => by cases ds <;> rfl
  | p :: kvs, [], h => by cases h
  | p :: kvs, d :: ds, h => by
    show (if keyOf (keyD p.1) = some k then some d else lookK k (kvs.map fun p => keyD p.1) ds).isSome = (decide (p.1 = k) || kvs.any fun kv => decide (kv.1 = k))
    rw [keyOf_D]
    by_cases e : p.1 = k
    · rw [if_pos (by rw [e]), decide_eq_true e]
      rfl
    · rw [if_neg (fun z => e (Option.some.inj z)), decide_eq_false e, Bool.false_or]
      exact lookK_any k kvs (by simpa using h)
theorem lookT_any (k : List Key) : ∀ (kvs : List (List Key × V)) {ds : List D}, ds.length = kvs.length → (lookT k (kvs.map fun p => keyTD p.1) ds).isSome = kvs.any fun kv => decide (kv.1 = k)
  | [], ds, _ => by cases ds <;> rfl
  | p :: kvs, [], h => by cases h
  | p :: kvs, d :: ds, h => by
    show (if keyTOf (keyTD p.1) = some k then some d else lookT k (kvs.map fun p => keyTD p.1) ds).isSome = (decide (p.1 = k) || kvs.any fun kv => decide (kv.1 = k))
    rw [keyTOf_D]
    by_cases e : p.1 = k
    · rw [if_pos (by rw [e]), decide_eq_true e]
      rfl
    · rw [if_neg (fun z => e (Option.some.inj z)), decide_eq_false e, Bool.false_or]
      exact lookT_any k kvs (by simpa using h)
theorem replK_rep (k : Key) {v : D} {w : V} (rv : Rep C ρ H v w) : ∀ (kvs : List (Key × V)) {ds : List D}, Reps C ρ H ds (kvs.map (·.2)) → Reps C ρ H (replK k v (kvs.map fun p => keyD p.1) ds) ((kvs.map fun kv => if kv.1 = k then (kv.1, w) else kv).map (·.2))
  | [], ds, h => by cases ds <;> exact rfl
  | p :: kvs, [], h => by cases h
  | p :: kvs, d :: ds, h => by
    obtain ⟨x, r, e, h1, h2⟩ := h
    cases e
    refine ⟨_, _, rfl, ?_, replK_rep k rv kvs h2⟩
    show Rep C ρ H (if keyOf (keyD p.1) = some k then v else d) (if p.1 = k then (p.1, w) else p).2
    rw [keyOf_D]
    by_cases e : p.1 = k
    · rw [if_pos (by rw [e]), if_pos e]
      exact rv
    · rw [if_neg (fun z => e (Option.some.inj z)), if_neg e]
      exact h1
theorem replT_rep (k : List Key) {v : D} {w : V} (rv : Rep C ρ H v w) : ∀ (kvs : List (List Key × V)) {ds : List D}, Reps C ρ H ds (kvs.map (·.2)) → Reps C ρ H (replT k v (kvs.map fun p => keyTD p.1) ds) ((kvs.map fun kv => if kv.1 = k then (kv.1, w) else kv).map (·.2))
  | [], ds, h => by cases ds <;> exact rfl
  | p :: kvs, [], h => by cases h
  | p :: kvs, d :: ds, h => by
    obtain ⟨x, r, e, h1, h2⟩ := h
    cases e
    refine ⟨_, _, rfl, ?_, replT_rep k rv kvs h2⟩
    show Rep C ρ H (if keyTOf (keyTD p.1) = some k then v else d) (if p.1 = k then (p.1, w) else p).2
    rw [keyTOf_D]
    by_cases e : p.1 = k
    · rw [if_pos (by rw [e]), if_pos e]
      exact rv
    · rw [if_neg (fun z => e (Option.some.inj z)), if_neg e]
      exact h1
theorem keys_repl {κ : Type} [DecidableEq κ] (f : κ → D) (k : κ) (w : V) (kvs : List (κ × V)) : (kvs.map fun kv => if kv.1 = k then (kv.1, w) else kv).map (fun p => f p.1) = kvs.map fun p => f p.1 := by
  rw [List.map_map]
  refine List.map_congr_left fun p _ => ?_
  show f (if p.1 = k then (p.1, w) else p).1 = f p.1
  split <;> rfl
theorem putK_rep {k : Key} {v : D} {w : V} (rv : Rep C ρ H v w) {kvs : List (Key × V)} {ds ks' ds' : List D} (r : Reps C ρ H ds (kvs.map (·.2))) (e : (if (lookK k (kvs.map fun p => keyD p.1) ds).isSome then (kvs.map fun p => keyD p.1, replK k v (kvs.map fun p => keyD p.1) ds) else ((kvs.map fun p => keyD p.1) ++ [keyD k], ds ++ [v])) = (ks', ds')) :
    ks' = (putK kvs k w).map (fun p => keyD p.1) ∧ Reps C ρ H ds' ((putK kvs k w).map (·.2)) := by
  rw [lookK_any k kvs (by rw [← r.len, List.length_map])] at e
  unfold putK
  split at e
  · rename_i q
    cases e
    rw [if_pos q]
    exact ⟨(keys_repl keyD k w kvs).symm, replK_rep k rv kvs r⟩
  · rename_i q
    cases e
    rw [if_neg q, List.map_append, List.map_append]
    exact ⟨rfl, r.append (.one rv)⟩
theorem putT_rep {k : List Key} {v : D} {w : V} (rv : Rep C ρ H v w) {kvs : List (List Key × V)} {ds ks' ds' : List D} (r : Reps C ρ H ds (kvs.map (·.2))) (e : (if (lookT k (kvs.map fun p => keyTD p.1) ds).isSome then (kvs.map fun p => keyTD p.1, replT k v (kvs.map fun p => keyTD p.1) ds) else ((kvs.map fun p => keyTD p.1) ++ [keyTD k], ds ++ [v])) = (ks', ds')) :
    ks' = (putK kvs k w).map (fun p => keyTD p.1) ∧ Reps C ρ H ds' ((putK kvs k w).map (·.2)) := by
  rw [lookT_any k kvs (by rw [← r.len, List.length_map])] at e
  unfold putK
  split at e
  · rename_i q
    cases e
    rw [if_pos q]
    exact ⟨(keys_repl keyTD k w kvs).symm, replT_rep k rv kvs r⟩
  · rename_i q
    cases e
    rw [if_neg q, List.map_append, List.map_append]
    exact ⟨rfl, r.append (.one rv)⟩
/-- d[x] = v -/
theorem dc_put {a : Addr} {x v : D} {y w : V} {ks' ds' : List D} (h : DcR C ρ H t ks ds u) (hu : H a = some u) (rx : Rep C ρ H x y) (rv : Rep C ρ H v w) (e : dPut t ks ds x v = some (ks', ds')) : ∃ u', DPut H a y w (upd H a u') ∧ DcR C ρ H t ks' ds' u' := by
  unfold dPut at e
  split at e
  · rename_i hl
    rcases h with ⟨et, kvs, rfl, rfl, r⟩ | ⟨et, kvs, rfl, rfl, r⟩
    · subst et
      obtain ⟨k, ek, e⟩ := Option.map_eq_some_iff.mp e
      rw [keyD_of ek] at rx e
      obtain ⟨p1, p2⟩ := putK_rep rv r e
      have ey := rep_key rx
      subst ey
      exact ⟨_, DPut.k hu (by simpa using hl), .inl ⟨rfl, _, rfl, p1, p2⟩⟩
    · subst et
      obtain ⟨k, ek, e⟩ := Option.map_eq_some_iff.mp e
      rw [keyTD_of ek] at rx e
      obtain ⟨b, rfl, hb⟩ := rep_keyT rx
      obtain ⟨p1, p2⟩ := putT_rep rv r e
      exact ⟨_, DPut.t hu hb (by simpa using hl), .inr ⟨rfl, _, rfl, p1, p2⟩⟩
  · cases e
/-! ### dict(l) -/
/-- the pairs of l -/
theorem dict_pairsK : ∀ {l : List D} {vs : List V} {kvs : List (Key × V)} {ds ks' ds' : List D}, dictOf false l (kvs.map fun p => keyD p.1) ds = some (ks', ds') → Reps C ρ H l vs → Reps C ρ H ds (kvs.map (·.2)) →
    ∃ (ps : List Addr) (more : List (Key × V)), vs = ps.map V.ref ∧ Paired (fun p kv => H p = some (.tup [kV kv.1, kv.2])) ps more ∧ ks' = (mergeK kvs more).map (fun p => keyD p.1) ∧ Reps C ρ H ds' ((mergeK kvs more).map (·.2))
  | [], vs, kvs, ds, ks', ds', e, h, r => by
    cases (Option.some.inj e : (_, _) = (ks', ds'))
    rw [show vs = [] from h]
    exact ⟨[], [], rfl, .nil, rfl, r⟩
  | d :: l, vs, kvs, ds, ks', ds', e, h, r => by
    obtain ⟨v, rest, rfl, h1, h2⟩ := h
    match d, e, h1 with
    | .tup [k, x], e, h1 =>
      obtain ⟨⟨k1, d1⟩, e1, e2⟩ := Option.bind_eq_some_iff.mp (show (dPut false (kvs.map fun p => keyD p.1) ds k x).bind (fun p => dictOf false l p.1 p.2) = some (ks', ds') from e)
      obtain ⟨a, ws, rfl, ha, rw'⟩ := h1
      obtain ⟨kv, r1, rfl, rk, r2⟩ := rw'
      obtain ⟨xv, r3, rfl, rx, er⟩ := r2
      cases (show r3 = [] from er)
      unfold dPut at e1
      split at e1
      · obtain ⟨kk, ek, e1⟩ := Option.map_eq_some_iff.mp e1
        rw [keyD_of ek] at rk e1
        have ey := rep_key rk
        subst ey
        obtain ⟨p1, p2⟩ := putK_rep (w := xv) rx r e1
        subst p1
        obtain ⟨ps, more, q1, q2, q3, q4⟩ := dict_pairsK e2 h2 p2
        exact ⟨a :: ps, (kk, xv) :: more, by rw [q1]; rfl, .cons ha q2, q3, q4⟩
      · cases e1
    | .tup [], e, _ => cases e
    | .tup [_], e, _ => cases e
    | .tup (_ :: _ :: _ :: _), e, _ => cases e
    | .non, e, _ => cases e
    | .bl _, e, _ => cases e
    | .int _, e, _ => cases e
    | .str _, e, _ => cases e
    | .lst _, e, _ => cases e
    | .dct _ _ _, e, _ => cases e
    | .ins _ _ _, e, _ => cases e
    | .fn _, e, _ => cases e
    | .obj _, e, _ => cases e
    | .scr _, e, _ => cases e
    | .exc _, e, _ => cases e
def mergeT (kvs more : List (List Key × V)) : List (List Key × V) := more.foldl (fun acc kv => putK acc kv.1 kv.2) kvs
theorem dict_pairsT : ∀ {l : List D} {vs : List V} {kvs : List (List Key × V)} {ds ks' ds' : List D}, dictOf true l (kvs.map fun p => keyTD p.1) ds = some (ks', ds') → Reps C ρ H l vs → Reps C ρ H ds (kvs.map (·.2)) →
    ∃ (ps : List (Addr × Addr)) (more : List (List Key × V)), vs = ps.map (fun p => V.ref p.1) ∧ Paired (fun (p : Addr × Addr) kv => H p.1 = some (.tup [.ref p.2, kv.2]) ∧ H p.2 = some (.tup (kv.1.map kV))) ps more ∧ ks' = (mergeT kvs more).map (fun p => keyTD p.1) ∧ Reps C ρ H ds' ((mergeT kvs more).map (·.2))
  | [], vs, kvs, ds, ks', ds', e, h, r => by
    cases (Option.some.inj e : (_, _) = (ks', ds'))
    rw [show vs = [] from h]
    exact ⟨[], [], rfl, .nil, rfl, r⟩
  | d :: l, vs, kvs, ds, ks', ds', e, h, r => by
    obtain ⟨v, rest, rfl, h1, h2⟩ := h
    match d, e, h1 with
    | .tup [k, x], e, h1 =>
      obtain ⟨⟨k1, d1⟩, e1, e2⟩ := Option.bind_eq_some_iff.mp (show (dPut true (kvs.map fun p => keyTD p.1) ds k x).bind (fun p => dictOf true l p.1 p.2) = some (ks', ds') from e)
      obtain ⟨a, ws, rfl, ha, rw'⟩ := h1
      obtain ⟨kv, r1, rfl, rk, r2⟩ := rw'
      obtain ⟨xv, r3, rfl, rx, er⟩ := r2
      cases (show r3 = [] from er)
      unfold dPut at e1
      split at e1
      · obtain ⟨kk, ek, e1⟩ := Option.map_eq_some_iff.mp e1
        rw [keyTD_of ek] at rk e1
        obtain ⟨b, rfl, hb⟩ := rep_keyT rk
        obtain ⟨p1, p2⟩ := putT_rep (w := xv) rx r e1
        subst p1
        obtain ⟨ps, more, q1, q2, q3, q4⟩ := dict_pairsT e2 h2 p2
        exact ⟨(a, b) :: ps, (kk, xv) :: more, by rw [q1]; rfl, .cons ⟨ha, hb⟩ q2, q3, q4⟩
      · cases e1
    | .tup [], e, _ => cases e
    | .tup [_], e, _ => cases e
    | .tup (_ :: _ :: _ :: _), e, _ => cases e
    | .non, e, _ => cases e
    | .bl _, e, _ => cases e
    | .int _, e, _ => cases e
    | .str _, e, _ => cases e
    | .lst _, e, _ => cases e
    | .dct _ _ _, e, _ => cases e
    | .ins _ _ _, e, _ => cases e
    | .fn _, e, _ => cases e
    | .obj _, e, _ => cases e
    | .scr _, e, _ => cases e
    | .exc _, e, _ => cases e
end
end MC
namespace MC
open PySem PySem.Spec PyProof.Rows L2
section
variable {X : Cx}
theorem prs_of {pins : List (Addr × Obj)} {σ : L2.St} {H : Hp} {s : Shared} (I : L2.Inv X pins σ H s) : ∀ {ps : List (Addr × Addr)} {more : List (List Key × V)}, Paired (fun (p : Addr × Addr) kv => H p.1 = some (.tup [.ref p.2, kv.2]) ∧ H p.2 = some (.tup (kv.1.map kV))) ps more →
    ∃ hps : List (List Key × Addr × Value), KT H more hps ∧ hps.length = ps.length ∧ ∀ (j : Nat) (q : List Key × Addr × Value), hps[j]? = some q → ∃ b, ps[j]? = some (b, q.2.1) ∧ IsTup s.heap b #[.ref q.2.1, q.2.2]
  | _, _, .nil => ⟨[], .nil, rfl, fun j q e => by simp at e⟩
  | _, _, .cons (a := p) (b := kv) h t => by
    obtain ⟨hps, r, hl, hp⟩ := prs_of I t
    obtain ⟨its, rv, ht, _⟩ := I.tuple (SqT.of h.1)
    obtain ⟨u, y, ei, ru, ry⟩ := vals2 rv
    subst ei
    obtain rfl : u = Value.ref p.2 := ru
    refine ⟨(kv.1, p.2, y) :: hps, .cons ⟨rfl, h.2, ry⟩ r, by rw [List.length_cons, List.length_cons, hl], fun j q e => ?_⟩
    cases j with
    | zero =>
      have e' : (kv.1, p.2, y) = q := Option.some.inj e
      subst e'
      exact ⟨p.1, rfl, ht⟩
    | succ j =>
      obtain ⟨b, e1, e2⟩ := hp j q (by simpa using e)
      exact ⟨b, by simpa using e1, e2⟩
theorem KT_all {H : Hp} : ∀ (more : List (List Key × V)) {kvs : List (List Key × V)} {hps xs : List (List Key × Addr × Value)}, KT H more hps → KT H kvs xs → KT H (mergeT kvs more) (storedAllH xs hps)
  | [], kvs, hps, xs, h, r => by
    cases h
    exact r
  | kv :: more, kvs, hps, xs, h, r => by
    cases h with
    | cons h t =>
      obtain ⟨e, hb, rv⟩ := h
      have := r.put kv.1 hb rv
      rw [e] at this
      have z := KT_all more t this
      show KT H (mergeT (putK kvs kv.1 kv.2) more) _
      rw [e]
      exact z
theorem mergeT_len : ∀ (more kvs : List (List Key × V)), (mergeT kvs more).length ≤ kvs.length + more.length
  | [], kvs => Nat.le_refl _
  | kv :: more, kvs => by
    have h1 := mergeT_len more (putK kvs kv.1 kv.2)
    have h2 := length_putK kvs kv.1 kv.2
    show (mergeT (putK kvs kv.1 kv.2) more).length ≤ _
    rw [List.length_cons]
    omega
theorem call_dictT (hcalm : X.calm = true) (hu : X.A.units + 65 < cLine) : CallR X (.type "dict") (fun xs H Q => ∃ (a : Addr) (ps : List (Addr × Addr)) (more : List (List Key × V)), xs = [.ref a] ∧ SqL X.K H a (ps.map fun p => V.ref p.1) ∧ Paired (fun (p : Addr × Addr) kv => H p.1 = some (.tup [.ref p.2, kv.2]) ∧ H p.2 = some (.tup (kv.1.map kV))) ps more ∧
    ∀ p, H p = none → Q (.ref p) (upd H p (.dT (mergeT [] more)))) := by
  intro pins s σ H xs us Q I r q
  obtain ⟨a, ps, more, ex, hq, hp, q⟩ := q
  subst ex
  obtain ⟨u, eu, rx⟩ := vals1 r
  subst eu
  cases rx
  obtain ⟨its, rv, pl, hz⟩ := I.list hq
  have ei : its = ps.map fun p => Value.ref p.1 := by
    have := refs_at (ps := ps.map (·.1)) (us := its) (by rw [List.map_map]; exact rv)
    rw [List.map_map] at this
    exact this
  subst ei
  rw [List.length_map] at hz
  obtain ⟨hps, rel, hl, hpr⟩ := prs_of I hp
  obtain ⟨o, n, ho, hc, hd, hdat⟩ := pl
  have keyIs : ∀ x ∈ hps, (tupleKind (mixKind X.prog X.w)).is s.heap x.1 x.2.1 := fun x hx => by
    obtain ⟨j, hj⟩ := List.mem_iff_getElem?.mp hx
    have : ∀ {m : List (List Key × V)} {g : List (List Key × Addr × Value)}, KT H m g → ∀ x ∈ g, H x.2.1 = some (.tup (x.1.map kV)) := fun r => by
      induction r with
      | nil => intro x hx; exact nomatch hx
      | cons h t ih =>
        intro x hx
        rcases List.mem_cons.mp hx with rfl | hx
        · rw [← h.1]; exact h.2.1
        · exact ih x hx
    exact key_of I.hok (this rel x hx)
  refine PySem.call_dict_pairsH (knd := tupleKind (mixKind X.prog X.w)) (ps := hps) (PairArg.list a (ps.map fun p => Value.ref p.1).toArray (fun j => (ps.getD j (0, 0)).1) (hps.map fun x => (Value.ref x.2.1, x.2.2))) (I.ok.hd hcalm) (by show X.A.units + 1 + 1 < cLine; omega) ⟨⟨o, n, ho, hc, hd, hdat⟩, by simp [hl], fun j k v e => ?_⟩ ⟨by simp, fun i key v e => ?_⟩ (fun h' hk x hx => ?_) (by rw [List.length_map, hl]; exact hz) fun h' tk hd' k => ?_
  · rw [List.getElem?_map] at e
    obtain ⟨x, hx, e⟩ := Option.map_eq_some_iff.mp e
    cases e
    obtain ⟨b, e1, e2⟩ := hpr j x hx
    have e3 : ps.getD j (0, 0) = (b, x.2.1) := by rw [List.getD_eq_getElem?_getD, e1]; rfl
    have e4 : (ps.getD j (0, 0)).1 = b := by rw [e3]
    dsimp only
    rw [e4]
    exact ⟨by simp [e1], .inl e2⟩
  · have e : (hps.map fun x => (Value.ref x.2.1, x.2.2))[i]? = some (key, v) := e
    rw [List.getElem?_map] at e
    obtain ⟨x, hx, e⟩ := Option.map_eq_some_iff.mp e
    cases e
    exact ⟨x.1, x.2.1, hx, rfl⟩
  · obtain ⟨ob, items, m, h1, h2, h3, h4⟩ := keyIs x hx
    exact ⟨ob, items, m, hk _ _ (Nat.ne_of_lt (Heap.lt_size h1)) (by simp) h1, h2, h3, h4⟩
  · have hm : (s.heap.objs.size == sysModules) = false := beq_eq_false_iff_ne.mpr (Nat.ne_of_gt I.big)
    have hlen : (mergeT [] more).length ≤ sizeLine := by
      refine Nat.le_trans (mergeT_len more []) ?_
      rw [List.length_nil, Nat.zero_add, Paired.length rel, hl]
      exact hz
    obtain ⟨q', es, ep, hq', h2, h3, h4, _, h5⟩ := hd'
    have hfr := I.hok.fresh (Nat.le_refl s.heap.objs.size)
    refine ⟨.ref s.heap.objs.size, upd H s.heap.objs.size (.dT (mergeT [] more)), I.laid (t' := tk) (fun b o e => k b o (by simp) e) (Nat.le_refl _) (show ObjOk X.prog X.w _ _ _ (.dT (mergeT [] more)) from ⟨hlen, hm, storedAllH [] hps, (KT_all more rel .nil).keeps fun c ys ec => ?_, q', es, ep, hq', h2, h3, h4, h5⟩), rfl, q _ hfr⟩
    rw [upd_ne (ne_of_none ec hfr)]
    exact ec
end
end MC
namespace MC
open PySem PySem.Spec PyProof.Rows L2
/-! ### freezing dicts -/
def IsDc (u : HO) : Prop := (∃ kvs, u = .dK kvs) ∨ ∃ kvs, u = .dT kvs
theorem DcR.isDc {C : Cn} {ρ : Rho} {H : Hp} {t : Bool} {ks ds : List D} {u : HO} (h : DcR C ρ H t ks ds u) : IsDc u := by
  rcases h with ⟨_, kvs, rfl, _⟩ | ⟨_, kvs, rfl, _⟩
  · exact .inl ⟨kvs, rfl⟩
  · exact .inr ⟨kvs, rfl⟩
theorem inv_frzH {X : Cx} {pins : List (Addr × Obj)} {σV : L2.St} {H : Hp} {s : Shared} {p : Addr} {u : HO} (I : L2.Inv X pins σV H s) (h : H p = some u) (dc : IsDc u) : ∃ o, L2.Inv X pins σV (L2.upd H p (.frz o u)) s := by
  have ok : ObjOk X.prog X.w H s.heap p u := I.hok p _ h
  have nt : ∀ b xs, H b = some (.tup xs) → b ≠ p := fun b xs e z => by
    rw [z, h] at e
    rcases dc with ⟨kvs, rfl⟩ | ⟨kvs, rfl⟩ <;> cases e
  have no : ∀ b x, H b = some (.own x) → b ≠ p := fun b x e z => by
    rw [z, h] at e
    rcases dc with ⟨kvs, rfl⟩ | ⟨kvs, rfl⟩ <;> cases e
  have ex : ∃ o, s.heap.get? p = some o := by
    rcases dc with ⟨kvs, rfl⟩ | ⟨kvs, rfl⟩
    · obtain ⟨_, _, _, _, o, _, _, e, _⟩ := ok
      exact ⟨o, e⟩
    · obtain ⟨_, _, _, _, o, _, _, e, _⟩ := ok
      exact ⟨o, e⟩
  obtain ⟨ob, e⟩ := ex
  have mu : Mut (H p) := by
    rw [h]
    rcases dc with ⟨kvs, rfl⟩ | ⟨kvs, rfl⟩ <;> trivial
  exact ⟨ob, I.write (x := p) (e := p) (h' := s.heap) (t' := s.toks) (o := .frz ob u) mu (.inl rfl) (fun b u _ q => q) ⟨_, e⟩ ⟨e, ok.stay (fun b u _ q => q) (fun b q => by rw [upd_ne (no b _ q)]; exact q) fun b xs q => by rw [upd_ne (nt b xs q)]; exact q⟩⟩
def FzToD (v : V) (H : Hp) (Q : VK) : Prop := ∃ p u, v = .ref p ∧ H p = some u ∧ IsDc u ∧ ∀ o, Q v (upd H p (.frz o u))
theorem EP.frzD {X : Cx} {pins : List (Addr × Obj)} {σ : L2.St} {Q : VK} {u : Value} {s : Shared} (h : EP X pins σ (fun v H => FzToD v H Q) u s) : EP X pins σ Q u s := by
  obtain ⟨v, H', I, r, p, w, rfl, hp, dc, q⟩ := h
  obtain ⟨o, I'⟩ := inv_frzH I hp dc
  exact ⟨_, _, I', r, q o⟩
theorem PE.frzD {X : Cx} {e : Expr} {t : TE} (h : PE X e t) : PE X e (fun σ H Q => t σ H fun v H1 => FzToD v H1 Q) :=
  ⟨fun pins s σ H Q I hw => thn (h.run pins s σ H _ I hw) fun _ _ q => EP.frzD q⟩
theorem CallR.frzD {X : Cx} {f : Value} {r : List V → Hp → VK → Prop} (h : CallR X f r) : CallR X f (fun xs H Q => r xs H fun v H1 => FzToD v H1 Q) :=
  fun pins s σ H xs us Q I rx hw => thn (h pins s σ H xs us _ I rx hw) fun _ _ q => EP.frzD q
theorem FzToD.new {H : Hp} {p : Addr} {u : HO} {Q : VK} (dc : IsDc u) (h : ∀ o, Q (.ref p) (upd H p (.frz o u))) : FzToD (.ref p) (upd H p u) Q :=
  ⟨p, u, rfl, upd_same, dc, fun o => by rw [upd_upd]; exact h o⟩
end MC
namespace MC
open PySem PySem.Spec L2
section
variable {X : Cx} {C : Cn}
theorem pys_any (x : D) : ∀ l : List D, (pys l).any (fun z => PyData.eqv z x.py) = l.any fun z => eqD z x
  | [] => rfl
  | d :: l => by
    show (PyData.eqv d.py x.py || (pys l).any _) = (eqD d x || l.any _)
    rw [pys_any x l]
    rfl
/-- a rule by cases of the operation's values -/
theorem op_case {f : Value → Value → Sem Value} {g : D → D → Option D}
    (h : ∀ (dx dy d : D), g dx dy = some d → OpR X f (fun x y H Q => ∃ ρ, Rep C ρ H dx x ∧ Rep C ρ H dy y ∧ ∀ v H', Grow H H' → Rep C ρ H' d v → Q v H')) : OpR X f (rD2 C g) := by
  intro pins s σ H x y v u Q I rx ry q
  obtain ⟨ρ, dx, dy, d, h1, h2, e, k⟩ := q
  exact h dx dy d e pins s σ H x y v u Q I rx ry ⟨ρ, h1, h2, k⟩
theorem two_int {f : Value → Value → Sem Value} {i j : Int} {d : D} {c : Int → Int → Prop} {g : Int → Int → V} (r : OpR X f (rI c g)) (hc : c i j) (hd : ∀ ρ H, Rep C ρ H d (g i j)) :
    OpR X f (fun x y H Q => ∃ ρ, Rep C ρ H (.int i) x ∧ Rep C ρ H (.int j) y ∧ ∀ v H', Grow H H' → Rep C ρ H' d v → Q v H') :=
  OpR.imp r fun x y H Q ⟨ρ, h1, h2, k⟩ => ⟨i, j, h1, h2, hc, k _ _ (Grow.refl _) (hd ρ H)⟩
theorem two_int0 {f : Value → Value → Sem Value} {i j : Int} {d : D} {g : Int → Int → V} (r : OpR X f (rI0 g)) (hd : ∀ ρ H, Rep C ρ H d (g i j)) :
    OpR X f (fun x y H Q => ∃ ρ, Rep C ρ H (.int i) x ∧ Rep C ρ H (.int j) y ∧ ∀ v H', Grow H H' → Rep C ρ H' d v → Q v H') :=
  OpR.imp r fun x y H Q ⟨ρ, h1, h2, k⟩ => ⟨i, j, h1, h2, k _ _ (Grow.refl _) (hd ρ H)⟩
theorem fz_at {H : Hp} {p : Addr} {o : Obj} {xs : List V} : FzL (upd H p (.frz o (.lst xs))) p xs := ⟨o, upd_same⟩
theorem snd_add (hK : X.K = C.K) : OpR X (binaryOp .Add) (rD2 C (opD .add)) := op_case fun dx dy d e => by
  cases dx with
  | int i =>
    cases dy with
    | int j =>
      cases (Option.some.inj e : D.int (i + j) = d)
      exact two_int0 op_add fun _ _ => rfl
    | _ => cases e
  | tup a =>
    cases dy with
    | tup b =>
      have e' : (if a.length + b.length ≤ sizeLine then some (D.tup (a ++ b)) else none) = some d := e
      split at e'
      · rename_i hz
        cases e'
        refine OpR.imp op_catA fun x y H Q hh => ?_
        obtain ⟨ρ, ⟨p, vs, rfl, h1, r1⟩, ⟨p2, ws, rfl, h2, r2⟩, k⟩ := hh
        rw [hK]
        have l1 := r1.len
        have l2 := r2.len
        refine ⟨p, p2, vs, ws, rfl, rfl, SqT.of h1, SqT.of h2, by omega, fun z => ?_, fun _ z => ?_, fun _ _ q hq => ?_⟩
        · subst z
          have : a = [] := List.eq_nil_of_length_eq_zero (by rw [← l1]; rfl)
          subst this
          exact k _ _ (Grow.refl _) ⟨p2, ws, rfl, h2, r2⟩
        · subst z
          have : b = [] := List.eq_nil_of_length_eq_zero (by rw [← l2]; rfl)
          subst this
          rw [List.append_nil] at k
          exact k _ _ (Grow.refl _) ⟨p, vs, rfl, h1, r1⟩
        · exact k _ _ (Grow.upd hq) ⟨q, _, rfl, upd_same, (r1.append r2).grow (Grow.upd hq)⟩
      · cases e'
    | _ => cases e
  | lst a =>
    cases dy with
    | lst b =>
      have e' : (if a.length + b.length ≤ sizeLine then some (D.lst (a ++ b)) else none) = some d := e
      split at e'
      · rename_i hz
        cases e'
        refine OpR.imp (OpR.frz op_catF) fun x y H Q hh => ?_
        obtain ⟨ρ, ⟨p, vs, rfl, h1, r1⟩, ⟨p2, ws, rfl, h2, r2⟩, k⟩ := hh
        have l1 := r1.len
        have l2 := r2.len
        refine ⟨p, p2, vs, ws, rfl, rfl, .inr h1, .inr h2, by omega, fun q hq => FzTo.new fun o => ?_⟩
        exact k _ _ (Grow.upd hq) ⟨q, _, rfl, fz_at, (r1.append r2).grow (Grow.upd hq)⟩
      · cases e'
    | _ => cases e
  | str a =>
    cases dy with
    | str b =>
      have e' : (if a.length + b.length ≤ sizeLine then some (D.str (a ++ b)) else none) = some d := e
      split at e'
      · rename_i hz
        cases e'
        exact OpR.imp op_add_str fun x y H Q ⟨ρ, h1, h2, k⟩ => ⟨a, b, h1, h2, hz, k _ _ (Grow.refl _) rfl⟩
      · cases e'
    | _ => cases e
  | _ => cases dy <;> cases e
theorem lim_eq : lim = 2 ^ 64 := by decide
theorem snd_mul (hK : X.K = C.K) : OpR X (binaryOp .Mult) (rD2 C (opD .mul)) := op_case fun dx dy d e => by
  cases dx with
  | int i =>
    cases dy with
    | int j =>
      have e' : (if (-lim < i ∧ i < lim) ∨ (-lim < j ∧ j < lim) then some (D.int (i * j)) else none) = some d := e
      split at e'
      · rename_i hz
        cases e'
        rw [lim_eq] at hz
        exact two_int op_mul hz fun _ _ => rfl
      · cases e'
    | _ => cases e
  | tup l =>
    cases dy with
    | int m =>
      have e' : (if -1000 ≤ m ∧ m ≤ 1000 ∧ l.length ≤ 1000 then some (D.tup (List.replicate m.toNat l).flatten) else none) = some d := e
      split at e'
      · rename_i hz
        cases e'
        refine OpR.imp op_repTF fun x y H Q hh => ?_
        obtain ⟨ρ, ⟨p, vs, rfl, h1, r1⟩, h2, k⟩ := hh
        rw [hK]
        have l1 := r1.len
        refine ⟨p, m, vs, rfl, h2, h1, hz.1, hz.2.1, by omega, fun v H' g ⟨q, e, hq⟩ => ?_⟩
        exact k _ _ g ⟨q, _, e, hq, (r1.flat m.toNat).grow g⟩
      · cases e'
    | _ => cases e
  | lst l =>
    cases dy with
    | int m =>
      have e' : (if -1000 ≤ m ∧ m ≤ 1000 ∧ l.length ≤ 1000 then some (D.lst (List.replicate m.toNat l).flatten) else none) = some d := e
      split at e'
      · rename_i hz
        cases e'
        refine OpR.imp (OpR.frz op_repF) fun x y H Q hh => ?_
        obtain ⟨ρ, ⟨p, vs, rfl, h1, r1⟩, h2, k⟩ := hh
        have l1 := r1.len
        refine ⟨p, m, vs, rfl, h2, .inr h1, hz.1, hz.2.1, by omega, fun q hq => FzTo.new fun o => ?_⟩
        exact k _ _ (Grow.upd hq) ⟨q, _, rfl, fz_at, (r1.flat m.toNat).grow (Grow.upd hq)⟩
      · cases e'
    | _ => cases e
  | _ => cases dy <;> cases e
theorem snd_sub : OpR X (binaryOp .Sub) (rD2 C (opD .sub)) := op_case fun dx dy d e => by
  cases dx with
  | int i =>
    cases dy with
    | int j =>
      cases (Option.some.inj e : D.int (i - j) = d)
      exact two_int0 op_sub fun _ _ => rfl
    | _ => cases e
  | _ => cases dy <;> cases e
theorem snd_fdiv : OpR X (binaryOp .FloorDiv) (rD2 C (opD .fdiv)) := op_case fun dx dy d e => by
  cases dx with
  | int i =>
    cases dy with
    | int j =>
      have e' : (if 0 < j ∧ j < 1073741824 then some (D.int (i / j)) else none) = some d := e
      split at e'
      · rename_i hz
        cases e'
        exact two_int op_fdiv hz fun _ _ => rfl
      · cases e'
    | _ => cases e
  | _ => cases dy <;> cases e
theorem snd_mod : OpR X (binaryOp .Mod) (rD2 C (opD .mod)) := op_case fun dx dy d e => by
  cases dx with
  | int i =>
    cases dy with
    | int j =>
      have e' : (if 0 < j then some (D.int (i % j)) else none) = some d := e
      split at e'
      · rename_i hz
        cases e'
        exact two_int op_mod hz fun _ _ => rfl
      · cases e'
    | _ => cases e
  | _ => cases dy <;> cases e
theorem snd_pow : OpR X (binaryOp .Pow) (rD2 C (opD .pow)) := op_case fun dx dy d e => by
  cases dx with
  | int i =>
    cases dy with
    | int j =>
      have e' : (if 0 ≤ j ∧ j ≤ 1000000 ∧ i.natAbs < 2 ^ 64 then some (D.int (i ^ j.toNat)) else none) = some d := e
      split at e'
      · rename_i hz
        cases e'
        exact two_int op_pow hz fun _ _ => rfl
      · cases e'
    | _ => cases e
  | _ => cases dy <;> cases e
theorem eq_def (dx dy : D) : opD .eq dx dy = if dx.sh && dy.sh then some (.bl (eqD dx dy)) else none := by cases dx <;> rfl
theorem ne_def (dx dy : D) : opD .ne dx dy = if dx.sh && dy.sh then some (.bl (!eqD dx dy)) else none := by cases dx <;> rfl
theorem snd_eq (hK : X.K = C.K) (hu : X.A.units + 64 < cLine) : OpR X (compareOp .Eq) (rD2 C (opD .eq)) := op_case fun dx dy d e => by
  rw [eq_def] at e
  split at e
  · rename_i hz
    cases e
    obtain ⟨s1, s2⟩ := Bool.and_eq_true_iff.mp hz
    refine OpR.imp (op_eqD hu) fun x y H Q hh => ?_
    obtain ⟨ρ, h1, h2, k⟩ := hh
    rw [hK]
    exact ⟨dx.py, dy.py, sh_dp h1 s1, sh_dp h2 s2, s1, s2, k _ _ (Grow.refl _) rfl⟩
  · cases e
theorem snd_ne (hK : X.K = C.K) (hu : X.A.units + 64 < cLine) : OpR X (compareOp .NotEq) (rD2 C (opD .ne)) := op_case fun dx dy d e => by
  rw [ne_def] at e
  split at e
  · rename_i hz
    cases e
    obtain ⟨s1, s2⟩ := Bool.and_eq_true_iff.mp hz
    refine OpR.imp (op_neD hu) fun x y H Q hh => ?_
    obtain ⟨ρ, h1, h2, k⟩ := hh
    rw [hK]
    exact ⟨dx.py, dy.py, sh_dp h1 s1, sh_dp h2 s2, s1, s2, k _ _ (Grow.refl _) rfl⟩
  · cases e
theorem snd_lt (hK : X.K = C.K) (hu : X.A.units < cLine) : OpR X (compareOp .Lt) (rD2 C (opD .lt)) := op_case fun dx dy d e => by
  cases dx with
  | int i =>
    cases dy with
    | int j =>
      cases (Option.some.inj e : D.bl (decide (i < j)) = d)
      exact two_int0 op_lt fun _ _ => rfl
    | _ => cases e
  | tup a =>
    cases dy with
    | tup b =>
      have e' : (match asInts a, asInts b with
        | some x, some y => some (D.bl (HT.lexLt x y))
        | _, _ => none) = some d := e
      split at e'
      · rename_i x' y' ea eb
        cases e'
        refine OpR.imp (op_ltT hu) fun x y H Q hh => ?_
        obtain ⟨ρ, ⟨p, vs, rfl, h1, r1⟩, ⟨p2, ws, rfl, h2, r2⟩, k⟩ := hh
        rw [hK]
        rw [asInts_rep ea r1] at h1
        rw [asInts_rep eb r2] at h2
        exact ⟨p, p2, x', y', rfl, rfl, SqT.of h1, SqT.of h2, k _ _ (Grow.refl _) rfl⟩
      · cases e'
    | _ => cases e
  | _ => cases dy <;> cases e
theorem snd_le : OpR X (compareOp .LtE) (rD2 C (opD .le)) := op_case fun dx dy d e => by
  cases dx with
  | int i =>
    cases dy with
    | int j =>
      cases (Option.some.inj e : D.bl (decide (i ≤ j)) = d)
      exact two_int0 op_le fun _ _ => rfl
    | _ => cases e
  | _ => cases dy <;> cases e
theorem snd_gt : OpR X (compareOp .Gt) (rD2 C (opD .gt)) := op_case fun dx dy d e => by
  cases dx with
  | int i =>
    cases dy with
    | int j =>
      cases (Option.some.inj e : D.bl (decide (j < i)) = d)
      exact two_int0 op_gt fun _ _ => rfl
    | _ => cases e
  | _ => cases dy <;> cases e
theorem snd_ge : OpR X (compareOp .GtE) (rD2 C (opD .ge)) := op_case fun dx dy d e => by
  cases dx with
  | int i =>
    cases dy with
    | int j =>
      cases (Option.some.inj e : D.bl (decide (j ≤ i)) = d)
      exact two_int0 op_ge fun _ _ => rfl
    | _ => cases e
  | _ => cases dy <;> cases e
theorem mem_def (dx dy : D) : opD .mem dx dy = (memD dx dy).map .bl := by cases dx <;> rfl
theorem nmem_def (dx dy : D) : opD .nmem dx dy = (memD dx dy).map fun c => .bl (!c) := by cases dx <;> rfl
theorem snd_mem (hK : X.K = C.K) (hu : X.A.units + 65 < cLine) : OpR X (compareOp .In) (rD2 C (opD .mem)) := op_case fun dx dy d e => by
  rw [mem_def] at e
  obtain ⟨b, e1, rfl⟩ := Option.map_eq_some_iff.mp e
  cases dy with
  | lst l =>
    have e' : (if dx.sh && (D.lst l).sh then some (l.any fun z => eqD z dx) else none) = some b := e1
    split at e'
    · rename_i hz
      cases e'
      obtain ⟨s1, s2⟩ := Bool.and_eq_true_iff.mp hz
      refine OpR.imp (op_inD hu) fun x y H Q hh => ?_
      obtain ⟨ρ, h1, h2, k⟩ := hh
      rw [hK]
      refine ⟨dx.py, pys l, sh_dp h1 s1, sh_dp h2 s2, s1, s2, k _ _ (Grow.refl _) ?_⟩
      rw [pys_any]
      rfl
    · cases e'
  | tup l =>
    have e' : (if dx.sh && (D.tup l).sh then some (l.any fun z => eqD z dx) else none) = some b := e1
    split at e'
    · rename_i hz
      cases e'
      obtain ⟨s1, s2⟩ := Bool.and_eq_true_iff.mp hz
      refine OpR.imp (op_inDT hu) fun x y H Q hh => ?_
      obtain ⟨ρ, h1, h2, k⟩ := hh
      rw [hK]
      refine ⟨dx.py, pys l, sh_dp h1 s1, sh_dp h2 s2, s1, s2, k _ _ (Grow.refl _) ?_⟩
      rw [pys_any]
      rfl
    · cases e'
  | dct t ks vs =>
    obtain ⟨o, e2, rfl⟩ := Option.map_eq_some_iff.mp (show (dLook t ks vs dx).map Option.isSome = some b from e1)
    refine OpR.imp (op_dIn hu) fun x y H Q hh => ?_
    obtain ⟨ρ, h1, h2, k⟩ := hh
    obtain ⟨a, ob, u, rfl, q, dc⟩ := rep_dct h2
    obtain ⟨r, g, f⟩ := look_get (.inr ⟨ob, q⟩) dc h1 e2
    refine ⟨a, r, rfl, g, k _ _ (Grow.refl _) ?_⟩
    rw [f.isSome]
    rfl
  | _ => cases e1
theorem snd_nmem (hK : X.K = C.K) (hu : X.A.units + 65 < cLine) : OpR X (compareOp .NotIn) (rD2 C (opD .nmem)) := op_case fun dx dy d e => by
  rw [nmem_def] at e
  obtain ⟨b, e1, rfl⟩ := Option.map_eq_some_iff.mp e
  cases dy with
  | lst l =>
    have e' : (if dx.sh && (D.lst l).sh then some (l.any fun z => eqD z dx) else none) = some b := e1
    split at e'
    · rename_i hz
      cases e'
      obtain ⟨s1, s2⟩ := Bool.and_eq_true_iff.mp hz
      refine OpR.imp (op_notInD hu) fun x y H Q hh => ?_
      obtain ⟨ρ, h1, h2, k⟩ := hh
      rw [hK]
      refine ⟨dx.py, pys l, sh_dp h1 s1, sh_dp h2 s2, s1, s2, k _ _ (Grow.refl _) ?_⟩
      rw [pys_any]
      rfl
    · cases e'
  | tup l =>
    have e' : (if dx.sh && (D.tup l).sh then some (l.any fun z => eqD z dx) else none) = some b := e1
    split at e'
    · rename_i hz
      cases e'
      obtain ⟨s1, s2⟩ := Bool.and_eq_true_iff.mp hz
      refine OpR.imp (op_notInDT hu) fun x y H Q hh => ?_
      obtain ⟨ρ, h1, h2, k⟩ := hh
      rw [hK]
      refine ⟨dx.py, pys l, sh_dp h1 s1, sh_dp h2 s2, s1, s2, k _ _ (Grow.refl _) ?_⟩
      rw [pys_any]
      rfl
    · cases e'
  | dct t ks vs =>
    obtain ⟨o, e2, rfl⟩ := Option.map_eq_some_iff.mp (show (dLook t ks vs dx).map Option.isSome = some b from e1)
    refine OpR.imp (op_dNotIn hu) fun x y H Q hh => ?_
    obtain ⟨ρ, h1, h2, k⟩ := hh
    obtain ⟨a, ob, u, rfl, q, dc⟩ := rep_dct h2
    obtain ⟨r, g, f⟩ := look_get (.inr ⟨ob, q⟩) dc h1 e2
    refine ⟨a, r, rfl, g, k _ _ (Grow.refl _) ?_⟩
    rw [f.isSome]
    rfl
  | _ => cases e1
def isNonD : D → Bool
  | .non => true
  | _ => false
theorem isN_of {ρ : Rho} {H : Hp} {d : D} {v : V} (h : Rep C ρ H d v) : decide (v = .non) = isNonD d := by
  cases d with
  | non => rw [show v = .non from h]; rfl
  | bl b => rw [show v = .bl b from h]; rfl
  | int i => rw [show v = .int i from h]; rfl
  | str x => rw [show v = .str x from h]; rfl
  | tup l => obtain ⟨a, vs, rfl, _⟩ := h; rfl
  | lst l => obtain ⟨a, vs, rfl, _⟩ := h; rfl
  | dct _ _ _ => obtain ⟨a, o, rfl, _⟩ := h; rfl
  | ins _ _ _ => obtain ⟨x, dx, fvs, rfl, _⟩ := h; rfl
  | fn f => rw [show v = .ref _ from h]; rfl
  | obj n => obtain ⟨p, _, rfl⟩ := h; rfl
  | scr n => obtain ⟨p, rfl, _⟩ := h; rfl
  | exc c => obtain ⟨a, oe, u, vs, rfl, _⟩ := h; rfl
theorem snd_isN : OpR X (compareOp .Is) (rD2 C (opD .isN)) := op_case fun dx dy d e => by
  cases dy with
  | non =>
    have e' : some (D.bl (isNonD dx)) = some d := by rw [← e]; cases dx <;> rfl
    cases e'
    refine OpR.imp op_isN fun x y H Q ⟨ρ, h1, h2, k⟩ => ⟨h2, k _ _ (Grow.refl _) ?_⟩
    show V.bl _ = V.bl _
    rw [isN_of h1]
  | _ => cases dx <;> cases e
theorem snd_notN : OpR X (compareOp .IsNot) (rD2 C (opD .notN)) := op_case fun dx dy d e => by
  cases dy with
  | non =>
    have e' : some (D.bl (!isNonD dx)) = some d := by rw [← e]; cases dx <;> rfl
    cases e'
    refine OpR.imp op_notN fun x y H Q ⟨ρ, h1, h2, k⟩ => ⟨h2, k _ _ (Grow.refl _) ?_⟩
    show V.bl _ = V.bl _
    rw [isN_of h1]
  | _ => cases dx <;> cases e
theorem snd_isB : OpR X (compareOp .Is) (rD2 C (opD .isB)) := op_case fun dx dy d e => by
  cases dx with
  | bl a =>
    cases dy with
    | bl b =>
      cases (Option.some.inj e : D.bl (decide (a = b)) = d)
      exact OpR.imp op_is_bl fun x y H Q ⟨ρ, h1, h2, k⟩ => ⟨a, b, h1, h2, k _ _ (Grow.refl _) rfl⟩
    | _ => cases e
  | _ => cases dy <;> cases e
theorem op_sound (hK : X.K = C.K) (hu : X.A.units + 65 < cLine) (o : Op2) : OpR X (opSem o) (rD2 C (opD o)) := by
  cases o with
  | add => exact snd_add hK
  | sub => exact snd_sub
  | mul => exact snd_mul hK
  | fdiv => exact snd_fdiv
  | mod => exact snd_mod
  | pow => exact snd_pow
  | eq => exact snd_eq hK (by omega)
  | ne => exact snd_ne hK (by omega)
  | lt => exact snd_lt hK (by omega)
  | le => exact snd_le
  | gt => exact snd_gt
  | ge => exact snd_ge
  | mem => exact snd_mem hK hu
  | nmem => exact snd_nmem hK hu
  | isN => exact snd_isN
  | notN => exact snd_notN
  | isB => exact snd_isB
end
end MC
namespace MC
open PySem PySem.Spec L2
section
variable {X : Cx} {C : Cn}
/-- a built-in's reading over values -/
def rDL (C : Cn) (f : List D → Option D) : List V → Hp → VK → Prop := fun xs H Q => ∃ ρ ds d, Reps C ρ H ds xs ∧ f ds = some d ∧ ∀ v H', Grow H H' → Rep C ρ H' d v → Q v H'
theorem call_case {f : Value} {g : List D → Option D}
    (h : ∀ (ds : List D) (d : D), g ds = some d → CallR X f (fun xs H Q => ∃ ρ, Reps C ρ H ds xs ∧ ∀ v H', Grow H H' → Rep C ρ H' d v → Q v H')) : CallR X f (rDL C g) := by
  intro pins s σ H xs us Q I rx q
  obtain ⟨ρ, ds, d, h1, e, k⟩ := q
  exact h ds d e pins s σ H xs us Q I rx ⟨ρ, h1, k⟩
theorem reps1 {ρ : Rho} {H : Hp} {d : D} {xs : List V} (h : Reps C ρ H [d] xs) : ∃ v, xs = [v] ∧ Rep C ρ H d v := by
  obtain ⟨v, r, rfl, h1, h2⟩ := h
  rw [show r = [] from h2]
  exact ⟨v, rfl, h1⟩
theorem reps2 {ρ : Rho} {H : Hp} {d e : D} {xs : List V} (h : Reps C ρ H [d, e] xs) : ∃ v w, xs = [v, w] ∧ Rep C ρ H d v ∧ Rep C ρ H e w := by
  obtain ⟨v, r, rfl, h1, h2⟩ := h
  obtain ⟨w, rfl, h3⟩ := reps1 h2
  exact ⟨v, w, rfl, h1, h3⟩
theorem asInts_len : ∀ {l : List D} {ns : List Int}, asInts l = some ns → ns.length = l.length
  | [], ns, e => by cases (Option.some.inj e : [] = ns); rfl
  | d :: l, ns, e => by
    cases d with
    | int i =>
      obtain ⟨ms, em, rfl⟩ := Option.map_eq_some_iff.mp (show (asInts l).map (i :: ·) = some ns from e)
      rw [List.length_cons, List.length_cons, asInts_len em]
    | _ => cases e
open PyProof.Rows in
theorem cr_sumT (hc : X.calm = true) : CallR X (.builtin "sum") (fun vs H Q => ∃ (a : Addr) (ns : List Int), vs = [V.ref a] ∧ SqT X.K H a (ns.map V.int) ∧ Q (.int ns.sum) H) := by
  intro pins s σ H vs us Q I r h
  obtain ⟨a, ns, rfl, hs, q⟩ := h
  obtain ⟨its, rv, hl, _⟩ := I.tuple hs
  rw [Vals.ref1 r]
  have hi := rv.ints
  obtain ⟨xs, hx⟩ := hi.allInts.items
  have hn : numsOf (intItems xs).toList = ns := by rw [← hx]; exact hi.numsOf
  rw [nums_intItems] at hn
  have hl' : s.heap.IsTuple a (intItems xs) := by rw [← hx]; exact hl
  refine PySem.W.ktm_sumG (I.ok.hd hc) hl' fun h' tk t' hk => ?_
  refine ⟨.int ns.sum, H, I.kept hk, ⟨t', ?_⟩, q⟩
  rw [preSum_eq, List.take_of_length_le (by simp), hn]
theorem maxI_mem : ∀ (a : Int) (l : List Int), maxI (a :: l) ∈ a :: l ∧ ∀ y ∈ a :: l, y ≤ maxI (a :: l)
  | a, [] => ⟨by simp [maxI], by simp [maxI]⟩
  | a, b :: l => by
    obtain ⟨h1, h2⟩ := maxI_mem b l
    have e : maxI (a :: b :: l) = max a (maxI (b :: l)) := rfl
    rw [e]
    refine ⟨?_, fun y hy => ?_⟩
    · by_cases h : a ≤ maxI (b :: l)
      · rw [Int.max_eq_right h]; exact List.mem_cons_of_mem _ h1
      · rw [Int.max_eq_left (by omega)]; exact List.mem_cons_self
    · rcases List.mem_cons.mp hy with rfl | hy
      · exact Int.le_max_left _ _
      · exact Int.le_trans (h2 y hy) (Int.le_max_right _ _)
theorem minI_mem : ∀ (a : Int) (l : List Int), minI (a :: l) ∈ a :: l ∧ ∀ y ∈ a :: l, minI (a :: l) ≤ y
  | a, [] => ⟨by simp [minI], by simp [minI]⟩
  | a, b :: l => by
    obtain ⟨h1, h2⟩ := minI_mem b l
    have e : minI (a :: b :: l) = min a (minI (b :: l)) := rfl
    rw [e]
    refine ⟨?_, fun y hy => ?_⟩
    · by_cases h : a ≤ minI (b :: l)
      · rw [Int.min_eq_left h]; exact List.mem_cons_self
      · rw [Int.min_eq_right (by omega)]; exact List.mem_cons_of_mem _ h1
    · rcases List.mem_cons.mp hy with rfl | hy
      · exact Int.min_le_left _ _
      · exact Int.le_trans (Int.min_le_right _ _) (h2 y hy)
theorem snd_len (hK : X.K = C.K) : CallR X (.builtin "len") (rDL C (prD .len)) := call_case fun ds d e => by
  match ds, e with
  | [.tup l], e =>
    cases (Option.some.inj e : D.int l.length = d)
    refine CallR.imp call_len fun xs H Q hh => ?_
    obtain ⟨ρ, hr, k⟩ := hh
    obtain ⟨v, rfl, a, vs, rfl, h1, r1⟩ := reps1 hr
    rw [hK]
    exact ⟨_, vs.length, rfl, .inr ⟨vs, SqT.of h1, rfl⟩, k _ _ (Grow.refl _) (by rw [r1.len]; rfl)⟩
  | [.lst l], e =>
    cases (Option.some.inj e : D.int l.length = d)
    refine CallR.imp call_len fun xs H Q hh => ?_
    obtain ⟨ρ, hr, k⟩ := hh
    obtain ⟨v, rfl, a, vs, rfl, h1, r1⟩ := reps1 hr
    rw [hK]
    exact ⟨_, vs.length, rfl, .inl ⟨vs, FzL.sq h1, rfl⟩, k _ _ (Grow.refl _) (by rw [r1.len]; rfl)⟩
  | [.scr l], e =>
    cases (Option.some.inj e : D.int l.length = d)
    refine CallR.imp call_len fun xs H Q hh => ?_
    obtain ⟨ρ, hr, k⟩ := hh
    obtain ⟨v, rfl, a, rfl, h1⟩ := reps1 hr
    rw [hK]
    exact ⟨_, (l.map V.int).length, rfl, .inl ⟨_, h1.sq, rfl⟩, k _ _ (Grow.refl _) (by rw [List.length_map]; rfl)⟩
  | [.str x], e =>
    have e' : (if x.length ≤ sizeLine then some (D.int x.length) else none) = some d := e
    split at e'
    · rename_i hz
      cases e'
      refine CallR.imp call_len fun xs H Q hh => ?_
      obtain ⟨ρ, hr, k⟩ := hh
      obtain ⟨v, rfl, h1⟩ := reps1 hr
      rw [show v = .str x from h1]
      exact ⟨_, x.length, rfl, ⟨hz, rfl⟩, k _ _ (Grow.refl _) rfl⟩
    · cases e'
theorem snd_all (hK : X.K = C.K) (hc : X.calm = true) : CallR X (.builtin "all") (rDL C (prD .all)) := call_case fun ds d e => by
  match ds, e with
  | [.lst l], e =>
    obtain ⟨bs, eb, rfl⟩ := Option.map_eq_some_iff.mp (show (asBools l).map (fun bs => D.bl (bs.all id)) = some d from e)
    refine CallR.imp (cr_all hc) fun xs H Q hh => ?_
    obtain ⟨ρ, hr, k⟩ := hh
    obtain ⟨v, rfl, a, vs, rfl, h1, r1⟩ := reps1 hr
    rw [asBools_rep eb r1] at h1
    exact ⟨a, bs, rfl, FzL.sq h1, k _ _ (Grow.refl _) rfl⟩
theorem snd_any (hK : X.K = C.K) (hc : X.calm = true) : CallR X (.builtin "any") (rDL C (prD .any)) := call_case fun ds d e => by
  match ds, e with
  | [.lst l], e =>
    obtain ⟨bs, eb, rfl⟩ := Option.map_eq_some_iff.mp (show (asBools l).map (fun bs => D.bl (bs.any id)) = some d from e)
    refine CallR.imp (cr_any hc) fun xs H Q hh => ?_
    obtain ⟨ρ, hr, k⟩ := hh
    obtain ⟨v, rfl, a, vs, rfl, h1, r1⟩ := reps1 hr
    rw [asBools_rep eb r1] at h1
    exact ⟨a, bs, rfl, FzL.sq h1, k _ _ (Grow.refl _) rfl⟩
theorem snd_sum (hK : X.K = C.K) (hc : X.calm = true) : CallR X (.builtin "sum") (rDL C (prD .sum)) := call_case fun ds d e => by
  match ds, e with
  | [.lst l], e =>
    obtain ⟨bs, eb, rfl⟩ := Option.map_eq_some_iff.mp (show (asInts l).map (fun bs => D.int bs.sum) = some d from e)
    refine CallR.imp (cr_sum hc) fun xs H Q hh => ?_
    obtain ⟨ρ, hr, k⟩ := hh
    obtain ⟨v, rfl, a, vs, rfl, h1, r1⟩ := reps1 hr
    rw [asInts_rep eb r1] at h1
    exact ⟨a, bs, rfl, FzL.sq h1, k _ _ (Grow.refl _) rfl⟩
  | [.tup l], e =>
    obtain ⟨bs, eb, rfl⟩ := Option.map_eq_some_iff.mp (show (asInts l).map (fun bs => D.int bs.sum) = some d from e)
    refine CallR.imp (cr_sumT hc) fun xs H Q hh => ?_
    obtain ⟨ρ, hr, k⟩ := hh
    obtain ⟨v, rfl, a, vs, rfl, h1, r1⟩ := reps1 hr
    rw [asInts_rep eb r1] at h1
    rw [hK]
    exact ⟨a, bs, rfl, SqT.of h1, k _ _ (Grow.refl _) rfl⟩
theorem snd_max (hK : X.K = C.K) (hc : X.calm = true) : CallR X (.builtin "max") (rDL C (prD .max)) := call_case fun ds d e => by
  match ds, e with
  | [.int i, .int j], e =>
    cases (Option.some.inj e : D.int (max i j) = d)
    refine CallR.imp (call_max2 hc) fun xs H Q hh => ?_
    obtain ⟨ρ, hr, k⟩ := hh
    obtain ⟨v, w, rfl, h1, h2⟩ := reps2 hr
    rw [show v = .int i from h1, show w = .int j from h2]
    refine ⟨i, j, rfl, k _ _ (Grow.refl _) ?_⟩
    show V.int _ = V.int _
    congr 1
    split <;> omega
  | [.lst l], e =>
    have e' : (match asInts l with
      | some (a :: r) => some (D.int (maxI (a :: r)))
      | _ => none) = some d := e
    split at e'
    · rename_i a r ea
      cases e'
      refine CallR.imp (cr_max hc) fun xs H Q hh => ?_
      obtain ⟨ρ, hr, k⟩ := hh
      obtain ⟨v, rfl, p, vs, rfl, h1, r1⟩ := reps1 hr
      rw [asInts_rep ea r1] at h1
      obtain ⟨m1, m2⟩ := maxI_mem a r
      refine ⟨p, a :: r, rfl, FzL.sq h1, by simp, fun m hm hb => k _ _ (Grow.refl _) ?_⟩
      show V.int m = V.int _
      congr 1
      have a1 := m2 m hm
      have a2 := hb _ m1
      omega
    · cases e'
theorem snd_min (hK : X.K = C.K) (hc : X.calm = true) : CallR X (.builtin "min") (rDL C (prD .min)) := call_case fun ds d e => by
  match ds, e with
  | [.int i, .int j], e =>
    cases (Option.some.inj e : D.int (min i j) = d)
    refine CallR.imp (call_min2 hc) fun xs H Q hh => ?_
    obtain ⟨ρ, hr, k⟩ := hh
    obtain ⟨v, w, rfl, h1, h2⟩ := reps2 hr
    rw [show v = .int i from h1, show w = .int j from h2]
    refine ⟨i, j, rfl, k _ _ (Grow.refl _) ?_⟩
    show V.int _ = V.int _
    congr 1
    split <;> omega
  | [.lst l], e =>
    have e' : (match asInts l with
      | some (a :: r) => some (D.int (minI (a :: r)))
      | _ => none) = some d := e
    split at e'
    · rename_i a r ea
      cases e'
      refine CallR.imp (cr_min hc) fun xs H Q hh => ?_
      obtain ⟨ρ, hr, k⟩ := hh
      obtain ⟨v, rfl, p, vs, rfl, h1, r1⟩ := reps1 hr
      rw [asInts_rep ea r1] at h1
      obtain ⟨m1, m2⟩ := minI_mem a r
      refine ⟨p, a :: r, rfl, FzL.sq h1, by simp, fun m hm hb => k _ _ (Grow.refl _) ?_⟩
      show V.int m = V.int _
      congr 1
      have a1 := m2 m hm
      have a2 := hb _ m1
      omega
    · cases e'
theorem snd_tuple (hK : X.K = C.K) : CallR X (.type "tuple") (rDL C (prD .tuple)) := call_case fun ds d e => by
  match ds, e with
  | [.lst l], e =>
    cases (Option.some.inj e : D.tup l = d)
    refine CallR.imp call_tuple_of fun xs H Q hh => ?_
    obtain ⟨ρ, hr, k⟩ := hh
    obtain ⟨v, rfl, p, vs, rfl, h1, r1⟩ := reps1 hr
    exact ⟨p, vs, rfl, .inl ⟨FzL.sq h1, fun q hq => k _ _ (Grow.upd hq) ⟨q, vs, rfl, upd_same, r1.grow (Grow.upd hq)⟩⟩⟩
  | [.tup l], e =>
    cases (Option.some.inj e : D.tup l = d)
    refine CallR.imp call_tuple_of fun xs H Q hh => ?_
    obtain ⟨ρ, hr, k⟩ := hh
    obtain ⟨v, rfl, p, vs, rfl, h1, r1⟩ := reps1 hr
    rw [hK]
    exact ⟨p, vs, rfl, .inr ⟨SqT.of h1, k _ _ (Grow.refl _) ⟨p, vs, rfl, h1, r1⟩⟩⟩
theorem snd_list (hK : X.K = C.K) : CallR X (.type "list") (rDL C (prD .list)) := call_case fun ds d e => by
  match ds, e with
  | [.lst l], e =>
    cases (Option.some.inj e : D.lst l = d)
    refine CallR.imp (CallR.frz call_list_of) fun xs H Q hh => ?_
    obtain ⟨ρ, hr, k⟩ := hh
    obtain ⟨v, rfl, p, vs, rfl, h1, r1⟩ := reps1 hr
    exact ⟨p, vs, rfl, .inl (FzL.sq h1), fun q hq => FzTo.new fun o => k _ _ (Grow.upd hq) ⟨q, vs, rfl, fz_at, r1.grow (Grow.upd hq)⟩⟩
  | [.tup l], e =>
    cases (Option.some.inj e : D.lst l = d)
    refine CallR.imp (CallR.frz call_list_of) fun xs H Q hh => ?_
    obtain ⟨ρ, hr, k⟩ := hh
    obtain ⟨v, rfl, p, vs, rfl, h1, r1⟩ := reps1 hr
    rw [hK]
    exact ⟨p, vs, rfl, .inr (SqT.of h1), fun q hq => FzTo.new fun o => k _ _ (Grow.upd hq) ⟨q, vs, rfl, fz_at, r1.grow (Grow.upd hq)⟩⟩
/-! ### isinstance -/
def tyName : Ty → String
  | .int => "int"
  | .bool => "bool"
  | .tuple => "tuple"
  | .str => "str"
theorem rep_ty {ρ : Rho} {H : Hp} {d : D} {v : V} {t : Ty} {b : Bool} (h : Rep C ρ H d v) (e : isTy d t = some b) : ∃ tv : String, TyX C.K H v (.type tv) ∧ kitB tv (tyName t) = some b := by
  cases d with
  | non =>
    rw [show v = .non from h]
    refine ⟨_, .base .non, ?_⟩
    cases t <;> (cases (Option.some.inj e : false = b); decide +kernel)
  | bl c =>
    rw [show v = .bl c from h]
    refine ⟨_, .base (.bl c), ?_⟩
    cases t <;> (cases e; decide +kernel)
  | int i =>
    rw [show v = .int i from h]
    refine ⟨_, .base (.int i), ?_⟩
    cases t <;> (cases e; decide +kernel)
  | str x =>
    rw [show v = .str x from h]
    refine ⟨_, .base (.str x), ?_⟩
    cases t <;> (cases e; decide +kernel)
  | tup l =>
    obtain ⟨a, vs, rfl, q, _⟩ := h
    refine ⟨"tuple", ?_, ?_⟩
    · exact .base (.tup q)
    · cases t <;> (cases e; decide +kernel)
  | lst l =>
    obtain ⟨a, vs, rfl, ⟨o, q⟩, _⟩ := h
    refine ⟨"list", .base (.frz q), ?_⟩
    cases t <;> (cases e; decide +kernel)
  | _ => cases t <;> cases e
theorem snd_isi (hK : X.K = C.K) (t : Ty) : CallR X (.builtin "isinstance") (fun xs H Q => ∃ ρ d v b, xs = [v, .ty (tyName t)] ∧ Rep C ρ H d v ∧ isTy d t = some b ∧ Q (.bl b) H) := by
  refine CallR.imp call_isi fun xs H Q hh => ?_
  obtain ⟨ρ, d, v, b, rfl, h1, e, q⟩ := hh
  obtain ⟨tv, h2, h3⟩ := rep_ty h1 e
  rw [hK]
  exact ⟨v, _, _, _, b, rfl, .ty _, h2, kit_ty h3, q⟩
/-! ### subscripts -/
theorem atI_rep {ρ : Rho} {H : Hp} {l : List D} {vs : List V} {i : Int} {d : D} (r : Reps C ρ H l vs) (e : atI l i = some d) : ∃ v, atI vs i = some v ∧ Rep C ρ H d v := by
  unfold atI at e ⊢
  rw [r.len]
  cases q : ixN l.length i with
  | none => rw [q] at e; cases e
  | some j =>
    rw [q] at e
    obtain ⟨v, h1, h2⟩ := r.get (show l[j]? = some d from e)
    exact ⟨v, h1, h2⟩
theorem ix_any : IxR X (rIx X.K) := ix_seq
theorem IxR.imp {r r' : R2} (h : IxR X r) (k : ∀ x y H Q, r' x y H Q → r x y H Q) : IxR X r' := fun value slice pins s σ H x y v u Q I rx ry hw hs => h value slice pins s σ H x y v u Q I rx ry (k _ _ _ _ hw) hs
theorem snd_ix (hK : X.K = C.K) (hu : X.A.units + 1 < cLine) : IxR X (rD2 C ixOf) := by
  refine IxR.imp (ix_or ix_seq (ix_dict hu)) fun x y H Q hh => ?_
  obtain ⟨ρ, dx, dy, d, h1, h2, e, k⟩ := hh
  rw [hK]
  match dx, dy, e with
  | .dct t ks vs, x, e =>
    refine .inr ?_
    have e : (dLook t ks vs x).join = some d := by cases x <;> exact e
    have e : dLook t ks vs x = some (some d) := by
      cases z : dLook t ks vs x with
      | none => rw [z] at e; cases e
      | some o => rw [z] at e; cases (show o = some d from e); rfl
    obtain ⟨a, ob, u, rfl, q, dc⟩ := rep_dct h1
    obtain ⟨r, g, w, rfl, f⟩ := look_get (.inr ⟨ob, q⟩) dc h2 e
    exact ⟨a, w, rfl, g, k _ _ (Grow.refl _) f⟩
  | .tup l, .int i, e =>
    refine .inl ?_
    obtain ⟨a, vs, rfl, q, r⟩ := h1
    obtain ⟨v, e1, e2⟩ := atI_rep r e
    exact .inr (.inl ⟨a, vs, i, v, rfl, h2, SqT.of q, e1, k _ _ (Grow.refl _) e2⟩)
  | .lst l, .int i, e =>
    refine .inl ?_
    obtain ⟨a, vs, rfl, q, r⟩ := h1
    obtain ⟨v, e1, e2⟩ := atI_rep r e
    exact .inl ⟨a, vs, i, v, rfl, h2, FzL.sq q, e1, k _ _ (Grow.refl _) e2⟩
  | .scr l, .int i, e =>
    refine .inl ?_
    obtain ⟨a, rfl, q⟩ := h1
    have e' : (atI l i).map D.int = some d := e
    obtain ⟨n, e1, rfl⟩ := Option.map_eq_some_iff.mp e'
    have e2 : atI (l.map V.int) i = some (V.int n) := by
      unfold atI at e1 ⊢
      rw [List.length_map]
      cases z : ixN l.length i with
      | none => rw [z] at e1; cases e1
      | some j =>
        rw [z] at e1
        have e1 : l[j]? = some n := e1
        show (l.map V.int)[j]? = _
        rw [List.getElem?_map, e1]
        rfl
    exact .inl ⟨a, _, i, _, rfl, h2, q.sq, e2, k _ _ (Grow.refl _) rfl⟩
  | .str z, .int i, e =>
    refine .inl ?_
    have e' : (if z.length ≤ sizeLine then (atI z.cps.toList i).map (fun c => D.str ⟨#[c]⟩) else none) = some d := e
    split at e'
    · rename_i hz
      obtain ⟨c, e1, rfl⟩ := Option.map_eq_some_iff.mp e'
      exact .inr (.inr ⟨z, i, c, h1, h2, hz, e1, k _ _ (Grow.refl _) rfl⟩)
    · cases e'
theorem cut_rep {ρ : Rho} {H : Hp} {l : List D} {vs : List V} (lo hi : Option Int) (r : Reps C ρ H l vs) : Reps C ρ H (cutL l lo hi) (cutV vs lo hi) := by
  unfold cutL cutV
  rw [r.len]
  exact (r.drop _).take _
theorem SlR.imp {r r' : V → Option Int → Option Int → Hp → VK → Prop} (h : SlR X r) (k : ∀ x lo hi H Q, r' x lo hi H Q → r x lo hi H Q) : SlR X r' := by
  intro pins s σ H x v vl vu lo hi sl Q I rx hs pl pu hw
  exact h pins s σ H x v vl vu lo hi sl Q I rx hs pl pu (k _ _ _ _ _ hw)
def rDS (C : Cn) : V → Option Int → Option Int → Hp → VK → Prop := fun x lo hi H Q => ∃ ρ dx d, Rep C ρ H dx x ∧ slOf dx lo hi = some d ∧ ∀ v H', Grow H H' → Rep C ρ H' d v → Q v H'
theorem sl_frz : SlR X (fun x lo hi H Q => rSlL X.K x lo hi H fun v H1 => FzTo v H1 Q) := by
  intro pins s σ H x v vl vu lo hi sl Q I rx hs pl pu hw
  obtain ⟨T, id, h1, h2, h3⟩ := sl_list pins s σ H x v vl vu lo hi sl (fun v H1 => FzTo v H1 Q) I rx hs pl pu hw
  exact ⟨T, id, h1, h2, thn h3 fun _ _ q => EP.frz q⟩
theorem snd_sl (hK : X.K = C.K) : SlR X (rDS C) := by
  refine SlR.imp (SlR.or sl_frz sl_tupA) fun x lo hi H Q hh => ?_
  obtain ⟨ρ, dx, d, h1, e, k⟩ := hh
  rw [hK]
  match dx, e with
  | .tup l, e =>
    cases (Option.some.inj e : D.tup (cutL l lo hi) = d)
    obtain ⟨a, vs, rfl, q, r⟩ := h1
    refine .inr ⟨a, vs, rfl, SqT.of q, fun hw => ?_, fun hw p hp => ?_⟩
    · refine k _ _ (Grow.refl _) ⟨a, vs, rfl, q, ?_⟩
      have := cut_rep lo hi r
      have e2 : cutV vs lo hi = vs := by
        unfold cutV
        rw [hw.1, hw.2]
        simp
      rw [e2] at this
      exact this
    · exact k _ _ (Grow.upd hp) ⟨p, _, rfl, upd_same, (cut_rep lo hi r).grow (Grow.upd hp)⟩
  | .lst l, e =>
    cases (Option.some.inj e : D.lst (cutL l lo hi) = d)
    obtain ⟨a, vs, rfl, q, r⟩ := h1
    exact .inl ⟨a, vs, rfl, FzL.sq q, fun p hp => FzTo.new fun o => k _ _ (Grow.upd hp) ⟨p, _, rfl, fz_at, (cut_rep lo hi r).grow (Grow.upd hp)⟩⟩
/-! ### truth -/
theorem snd_tru {ρ : Rho} {H : Hp} {d : D} {v : V} {b : Bool} (h : Rep C ρ H d v) (e : truth d = some b) : TruV C.K v H b := by
  match d, e with
  | .non, e =>
    cases (Option.some.inj e : false = b)
    rw [show v = .non from h]
    rfl
  | .bl c, e =>
    have e2 : c = b := Option.some.inj e
    subst e2
    rw [show v = .bl c from h]
    rfl
  | .int i, e =>
    cases (Option.some.inj e : (i != 0) = b)
    rw [show v = .int i from h]
    rfl
  | .str x, e =>
    have e' : (if x.length ≤ sizeLine then some ((x.length : Int) != 0) else none) = some b := e
    split at e'
    · rename_i hz
      cases e'
      rw [show v = .str x from h]
      exact ⟨hz, rfl⟩
    · cases e'
  | .tup l, e =>
    cases (Option.some.inj e : (!l.isEmpty) = b)
    obtain ⟨a, vs, rfl, q, r⟩ := h
    refine .inr (.inl ⟨vs, SqT.of q, ?_⟩)
    have := r.len
    cases l <;> cases vs <;> simp_all
  | .lst l, e =>
    cases (Option.some.inj e : (!l.isEmpty) = b)
    obtain ⟨a, vs, rfl, q, r⟩ := h
    refine .inl ⟨vs, FzL.sq q, ?_⟩
    have := r.len
    cases l <;> cases vs <;> simp_all
  | .scr l, e =>
    cases (Option.some.inj e : (!l.isEmpty) = b)
    obtain ⟨a, rfl, q⟩ := h
    refine .inl ⟨_, q.sq, ?_⟩
    cases l <;> rfl
end
end MC
namespace MC
open PySem PySem.Spec PyProof.Rows L2
/-! ### tuples of ints by their order -/
theorem lex_asym : ∀ x y : List Int, HT.lexLt x y = true → HT.lexLt y x = false
  | [], [], h => by cases h
  | [], _ :: _, _ => rfl
  | _ :: _, [], h => by cases h
  | a :: x, b :: y, h => by
    rw [HT.lexLt_cons] at h ⊢
    by_cases e : a = b
    · rw [if_pos e] at h
      rw [if_pos e.symm]
      exact lex_asym x y h
    · rw [if_neg e] at h
      rw [if_neg (Ne.symm e)]
      have := of_decide_eq_true h
      exact decide_eq_false (by omega)
theorem lex_tr : ∀ x y z : List Int, HT.lexLt y x = false → HT.lexLt z y = false → HT.lexLt z x = false
  | [], [], z, h1, h2 => h2
  | [], b :: y, [], h1, h2 => by cases h2
  | [], b :: y, c :: z, h1, h2 => rfl
  | a :: x, [], z, h1, h2 => by cases h1
  | a :: x, b :: y, [], h1, h2 => by cases h2
  | a :: x, b :: y, c :: z, h1, h2 => by
    rw [HT.lexLt_cons] at h1 h2 ⊢
    by_cases e1 : b = a
    · rw [if_pos e1] at h1
      by_cases e2 : c = b
      · rw [if_pos e2] at h2
        rw [if_pos (e2.trans e1)]
        exact lex_tr x y z h1 h2
      · rw [if_neg e2] at h2
        have := of_decide_eq_false h2
        rw [if_neg (by omega)]
        exact decide_eq_false (by omega)
    · rw [if_neg e1] at h1
      have q1 := of_decide_eq_false h1
      by_cases e2 : c = b
      · rw [if_neg (by omega)]
        exact decide_eq_false (by omega)
      · rw [if_neg e2] at h2
        have q2 := of_decide_eq_false h2
        rw [if_neg (by omega)]
        exact decide_eq_false (by omega)
theorem lex_eq : ∀ x y : List Int, HT.lexLt x y = false → HT.lexLt y x = false → x = y
  | [], [], _, _ => rfl
  | [], _ :: _, h, _ => by cases h
  | _ :: _, [], _, h => by cases h
  | a :: x, b :: y, h1, h2 => by
    rw [HT.lexLt_cons] at h1 h2
    by_cases e : a = b
    · rw [if_pos e] at h1
      rw [if_pos e.symm] at h2
      rw [e, lex_eq x y h1 h2]
    · rw [if_neg e] at h1
      rw [if_neg (Ne.symm e)] at h2
      have q1 := of_decide_eq_false h1
      have q2 := of_decide_eq_false h2
      omega
theorem swo_lexK {α : Type} (k : α → List Int) : SrtO.Swo fun v u => HT.lexLt (k v) (k u) := ⟨fun x y h => lex_asym _ _ h, fun x y z h1 h2 => lex_tr _ _ _ h1 h2⟩
def IsTupI (h : Heap) (v : Value) (ns : List Int) : Prop := ∃ a o xs n, v = .ref a ∧ h.get? a = some o ∧ o.cls = .type "tuple" ∧ o.data = .seq xs n ∧ IntsAre xs.toList ns
theorem IsTupI.keeps {h h' : Heap} {v : Value} {ns : List Int} (p : IsTupI h v ns) (k : ∀ b o, h.get? b = some o → o.cls = .type "tuple" → h'.get? b = some o) : IsTupI h' v ns := by
  obtain ⟨a, o, xs, n, e, ho, hc, hd, hi⟩ := p
  exact ⟨a, o, xs, n, e, k _ _ ho hc, hc, hd, hi⟩
section
variable {prog : Program} {w : World} {A : Around} {E : Value → Shared → Prop} {s : Shared}
theorem lex_kat {r : Bool} {fin : Bool} : ∀ (i : Nat) {us vs : List Value} {ns ms : List Int}, IntsAre us ns → IntsAre vs ms → fin = decide (ns.length < ms.length) → r = HT.lexLt ns ms → PySem.W.KatLex prog w A true fin (fun r' s' => s' = s ∧ r' = r) (us.zip vs) i s
  | i, _, _, _, _, .nil, .nil, hf, hr => PySem.W.kat_nil ⟨rfl, by rw [hf, hr]; rfl⟩
  | i, _, _, _, _, .nil, .cons _ _ y, hf, hr => PySem.W.kat_nil ⟨rfl, by rw [hf, hr]; simp [HT.lexLt]⟩
  | i, _, _, _, _, .cons _ _ x, .nil, hf, hr => PySem.W.kat_nil ⟨rfl, by rw [hf, hr]; simp [HT.lexLt]⟩
  | i, _, _, _, _, .cons a t x, .cons b u y, hf, hr => by
    rw [HT.lexLt_cons] at hr
    refine PySem.W.kat_cons (SeqAt.EqAt.int_int a t b u prog w _ _ ?_)
    refine PySem.W.kat_go (fun e1 => ?_) (fun e1 => ?_)
    · have ex : a = b := by simpa using e1
      rw [if_pos ex] at hr
      exact PySem.W.kat_yes (lex_kat (i + 1) x y (by rw [hf]; simp) hr)
    · have ex : ¬ a = b := by simpa using e1
      rw [if_neg ex] at hr
      exact PySem.W.kat_no (TS.oneLt_ints _ ⟨rfl, hr.symm⟩)
theorem tups_cmp {vs : List Value} {k : Value → List Int} (hp : ∀ v ∈ vs, IsTupI s.heap v (k v)) : SrtO.Cmp prog w A s (tuples' true) (fun p => p.1 ∈ vs) (SrtO.lt2 fun v u => HT.lexLt (k v) (k u)) := by
  intro p q hm hm'
  obtain ⟨a, o, xs, n, e, ho, hc, hd, hi⟩ := hp _ hm
  obtain ⟨a', o', xs', n', e', ho', hc', hd', hi'⟩ := hp _ hm'
  show wpAny (model prog w) A (keyLt' (tuples' true) p.1 q.1) (fun r s' => s' = s ∧ r = HT.lexLt (k p.1) (k q.1)) (fun _ _ => False) s
  rw [e, e'] at *
  refine PySem.W.kat_lt ho hd ho' hd' ?_
  exact lex_kat 0 hi hi' (by rw [← Array.length_toList, ← Array.length_toList, hi.length, hi'.length]) rfl
theorem tups_firsts {h : Heap} {k : Value → List Int} : ∀ {vs : List Value}, (∀ v ∈ vs, IsTupI h v (k v) ∧ k v ≠ []) → ∃ fs : List Value, PySem.W.KatTups h vs fs ∧ fs.length = vs.length ∧ ∀ f ∈ fs, ∃ x t, f = Value.int x t
  | [], _ => ⟨[], PySem.W.KatTups.nil, rfl, fun _ hm => by simp at hm⟩
  | v :: vs, hp => by
    obtain ⟨fs, h1, h2, h3⟩ := tups_firsts (vs := vs) fun v' hm => hp v' (List.mem_cons_of_mem _ hm)
    obtain ⟨⟨a, o, xs, n, e, ho, hc, hd, hi⟩, ne⟩ := hp v (List.mem_cons_self ..)
    generalize k v = ns at hi ne
    subst e
    cases q : xs.toList with
    | nil =>
      rw [q] at hi
      cases hi
      exact absurd rfl ne
    | cons f r =>
      rw [q] at hi
      cases hi with
      | cons x t hr =>
        refine ⟨.int x t :: fs, PySem.W.KatTups.cons ho hc hd ?_ h1, by rw [List.length_cons, List.length_cons, h2], fun f hm => ?_⟩
        · rw [← Array.getElem?_toList, q]
          rfl
        · rcases List.mem_cons.mp hm with rfl | hm
          · exact ⟨x, t, rfl⟩
          · exact h3 f hm
theorem tups_sortable {a : Addr} {vs : List Value} {k : Value → List Int} (h0 : 0 < vs.length) (hp : ∀ v ∈ vs, IsTupI s.heap v (k v) ∧ k v ≠ []) (ha : ∀ o, s.heap.get? a = some o → o.cls ≠ .type "tuple") : SrtO.SortableO prog w A s a vs fun v u => HT.lexLt (k v) (k u) := by
  intro h' keep
  have hp' : ∀ v ∈ vs, IsTupI h' v (k v) ∧ k v ≠ [] := fun v hm => ⟨(hp v hm).1.keeps fun b o e c => keep b o (fun z => by subst z; exact ha o e c) e, (hp v hm).2⟩
  obtain ⟨fs, h1, h2, h3⟩ := tups_firsts hp'
  refine ⟨tuples' true, fun Q E hq => ?_, tups_cmp fun v hm => (hp' v hm).1⟩
  refine PySem.W.kat_kind (T := .type "int") h1 (by omega) (fun f hm => ?_) (by rfl) ?_
  · obtain ⟨x, t, rfl⟩ := h3 f hm
    exact PySem.W.Looks.now
  · have e : (Value.type "int" != Value.type "tuple") = true := by first | decide +kernel | rfl | decide
    rw [e]
    exact hq
/-- sorted(l): tuples of ints, any number -/
theorem sorted_tups {l : Addr} {vs : List Value} {k : Value → List Int} {Q : Value → Shared → Prop} (hl : s.heap.IsList l vs.toArray) (hz : vs.length ≤ sizeLine) (hp : ∀ v ∈ vs, IsTupI s.heap v (k v) ∧ k v ≠ [])
    (h : ∀ (h' : Heap) (d : Addr) (out : List Value), SrtO.Srtd (fun v u => HT.lexLt (k v) (k u)) out → SrtO.Stb (fun v u => HT.lexLt (k v) (k u)) out vs → (∀ b o, s.heap.get? b = some o → h'.get? b = some o) → s.heap.objs.size ≤ d → (∃ n, h'.get? d = some (seqObj "list" out.toArray n)) → Q (.ref d) { s with heap := h' }) :
    wpAny (model prog w) A (call (.builtin "sorted") [.ref l]) Q E s := by
  refine SrtO.sorted_ord (swo_lexK k) hl hz (fun h2 h₁ a ha kk => ?_) fun out hs hb => ?_
  · refine tups_sortable (s := { s with heap := h₁ }) (by omega) (fun v hm => ⟨(hp v hm).1.keeps fun b o e _ => (kk b o e).2, (hp v hm).2⟩) fun o e => ?_
    have e' : some o = some (seqObj "list" vs.toArray 0) := e.symm.trans ha
    cases e'
    intro c
    exact absurd (Value.type.inj c) (by decide)
  · exact h _ _ out hs hb (fun b o e => sortedAll_old e) (Nat.le_succ _) (sortedAll_at s.heap vs out.toArray)
end
/-! ### as rules -/
/-- x's ints -/
def RfTup (H : Hp) (x : V) (ns : List Int) : Prop := ∃ t, x = V.ref t ∧ H t = some (.tup (ns.map V.int))
section
variable {X : Cx}
theorem tup_isI {pins : List (Addr × Obj)} {σ : L2.St} {H : Hp} {s : Shared} {t : Addr} {ns : List Int} (I : L2.Inv X pins σ H s) (h : H t = some (.tup (ns.map V.int))) : IsTupI s.heap (.ref t) ns := by
  obtain ⟨_, its, r, o, ho, hc, n, hd⟩ := I.hok _ _ h
  exact ⟨t, o, _, n, rfl, ho, hc, hd, by simpa using r.ints⟩
theorem fin_sort {k : V → List Int} {xs : List V} {vs out : List Value} (e1 : xs = vs.map backV) (h1 : SrtO.Srtd (fun v u => HT.lexLt (k (backV v)) (k (backV u))) out) (h2 : SrtO.Stb (fun v u => HT.lexLt (k (backV v)) (k (backV u))) out vs) : (out.map backV).Perm xs ∧ ((out.map backV).map k).Pairwise (fun a b => HT.lexLt b a = false) := by
  refine ⟨by rw [e1]; exact h2.perm.map _, ?_⟩
  rw [List.map_map, List.pairwise_map]
  exact h1
theorem cr_sortT : CallR X (.builtin "sorted") (fun vs H Q => ∃ (a : Addr) (xs : List V) (k : V → List Int), vs = [V.ref a] ∧ SqL X.K H a xs ∧ (∀ x ∈ xs, RfTup H x (k x) ∧ k x ≠ []) ∧ ∀ ys p, ys.Perm xs → (ys.map k).Pairwise (fun a b => HT.lexLt b a = false) → H p = none → Q (.ref p) (upd H p (.lst ys))) := by
  intro pins s σ H vs us Q I r h
  obtain ⟨a, xs, k, rfl, hs, hx, q⟩ := h
  obtain ⟨its, rv, hl, hz⟩ := I.list hs
  obtain ⟨u, rfl, ru⟩ := vals1 r
  obtain rfl : u = Value.ref a := ru
  obtain ⟨e1, e2⟩ := refs_back rv fun x m => by
    obtain ⟨⟨t, e, _⟩, _⟩ := hx x m
    exact ⟨t, e⟩
  refine sorted_tups (k := fun u => k (backV u)) hl.isList (by rw [← rv.length]; exact hz) (fun v hv => ?_) fun h' d out h1 h2 kp hd hn => ?_
  · obtain ⟨t, rfl⟩ := e2 v hv
    have hm : V.ref t ∈ xs := by rw [e1]; exact List.mem_map.mpr ⟨_, hv, rfl⟩
    obtain ⟨⟨t', e, ht⟩, ne⟩ := hx _ hm
    cases e
    exact ⟨tup_isI I ht, ne⟩
  · have h3 : ∀ u ∈ out, ∃ a, u = Value.ref a := fun u hu => e2 u (h2.perm.mem_iff.mp hu)
    obtain ⟨n, hn⟩ := hn
    obtain ⟨p1, p2⟩ := fin_sort e1 h1 h2
    refine ⟨.ref d, upd H d (.lst (out.map backV)), I.laid (t' := s.toks) kp hd ⟨?_, out, n, vals_back h3, hn⟩, rfl, q _ d p1 p2 (I.hok.fresh hd)⟩
    rw [p1.length_eq]
    exact hz
theorem kdl_raw {prog : Program} {w : World} {d : Addr} {es : Array DictEntry} {ep : Nat} (lo : (d == sysModules) = false) : PySem.W.KdlSrc prog w "dict" d d es.size (fun i v => ∃ hi : i < es.size, v = es[i].key) (fun h => h.DictRaw d es ep) where
  type := fun _ hm => hm.typeIs
  there := fun _ hm => by
    obtain ⟨o, ho, _⟩ := hm
    exact ⟨Heap.lt_size ho, Heap.lt_size ho⟩
  keep := fun _ _ hm hk => hm.at fun o e => hk d (.inl rfl) o e
  notList := by decide
  notTuple := by decide
  hint := fun _ _ _ _ hm hq => PySem.W.kdl_hint_dict hm.typeIs hq
  iter := fun _ _ hh hm => ⟨_, _, (fun _ _ hq => wpAny_pyIter_dict_raw lo hm hq), Walks.rawKeys hh _ d (by
    obtain ⟨o, ho, _⟩ := hm
    exact Nat.ne_of_lt (Heap.lt_size ho)) es ep, ⟨⟨_, Heap.get?_push_size _ rfl, rfl, rfl⟩, hm.at fun o e => Heap.get?_push_of_some _ e⟩⟩
def vInt : V → Option Int
  | .int i => some i
  | _ => none
def tupAt : Option HO → List Int
  | some (.tup xs) => xs.filterMap vInt
  | _ => []
def intsAt (H : Hp) : V → List Int
  | .ref t => tupAt (H t)
  | _ => []
theorem intsAt_of {H : Hp} {t : Addr} {ns : List Int} (h : H t = some (.tup (ns.map V.int))) : intsAt H (.ref t) = ns := by
  show tupAt (H t) = ns
  rw [h]
  show (ns.map V.int).filterMap vInt = ns
  induction ns with
  | nil => rfl
  | cons a l ih =>
    have ih : (l.map V.int).filterMap vInt = l := by
      clear ih h
      induction l with
      | nil => rfl
      | cons b l ih => rw [List.map_cons, List.filterMap_cons, ih]; rfl
    rw [List.map_cons, List.filterMap_cons, ih]
    rfl
theorem paired_get {α β : Type} {F : α → β → Prop} : ∀ {l : List α} {m : List β} {j : Nat} {y : β}, Paired F l m → m[j]? = some y → ∃ p, l[j]? = some p ∧ F p y
  | _, _, j, y, .nil, h => by simp at h
  | _, _, 0, y, .cons r t, h => by
    simp at h
    subst h
    exact ⟨_, rfl, r⟩
  | _, _, j + 1, y, .cons r t, h => by
    obtain ⟨p, h1, h2⟩ := paired_get t (show _ = some y by simpa using h)
    exact ⟨p, by simpa using h1, h2⟩
theorem call_sortDT (hcalm : X.calm = true) : CallR X (.builtin "sorted") (fun vs H Q => ∃ (a : Addr) (kvs : List (List Key × V)) (ks : List (List Int)), vs = [V.ref a] ∧ Rd H a (.dT kvs) ∧ kvs.map (·.1) = ks.map (·.map Sum.inl) ∧ (∀ k ∈ ks, k ≠ []) ∧
    ∀ (ys : List V) (p : Addr), (ys.map (intsAt H)).Perm ks → (ys.map (intsAt H)).Pairwise (fun a b => HT.lexLt b a = false) → (∀ y ∈ ys, RfTup H y (intsAt H y)) → H p = none → Q (.ref p) (upd H p (.lst ys))) := by
  intro pins s σ H xs us Q I r q
  obtain ⟨a, kvs, ks, ex, hd, hks, hne, q⟩ := q
  subst ex
  obtain ⟨u, eu, rx⟩ := vals1 r
  subst eu
  obtain rfl : u = Value.ref a := rx
  obtain ⟨z, lo, vs, rel, hdo⟩ := dt_rd I.hok hd
  obtain ⟨o, es, ep, ho, hx, hdt, hes, _⟩ := hdo
  have raw : s.heap.DictRaw a es ep := ⟨o, ho, hx, hdt⟩
  have lk : kvs.length = ks.length := by
    have e := congrArg List.length hks
    simpa using e
  have lv : kvs.length = vs.length := Paired.length rel
  have hsz : es.size = ks.length := by
    rw [← Array.length_toList, hes, List.length_map]
    omega
  -- each key
  have each : ∀ (j : Nat) (y : List Key × Addr × Value), vs[j]? = some y → ∃ k, ks[j]? = some k ∧ H y.2.1 = some (.tup (k.map V.int)) := fun j y hy => by
    obtain ⟨p, hp, e1, e2, _⟩ := paired_get rel hy
    have e3 : (kvs.map (·.1))[j]? = some p.1 := by rw [List.getElem?_map, hp]; rfl
    rw [hks, List.getElem?_map] at e3
    obtain ⟨k, hk, ek⟩ := Option.map_eq_some_iff.mp e3
    refine ⟨k, hk, ?_⟩
    rw [e2, ← ek, List.map_map]
    rfl
  refine Calls.call_function_entry PyProof.Rows.kind_sorted PyProof.Rows.plain_sorted PyProof.Rows.entry_sorted (PyProof.Rows.args_sorted1 _) ?_
  unfold Builtin.«sorted»
  refine wpAny_bind (m := checkCount "sorted" 1 1 _) (wpAny_pure ?_)
  refine wpAny_bind (PySem.W.kdu_collect (A := X.A.in1) (kdl_raw lo) (I.ok.hd hcalm) raw (by omega) fun h' tk acc hk hacc => ?_)
  have hal : acc.toList.length = ks.length := by rw [Array.length_toList, hacc.1, hsz]
  have hacc' : acc.toList = vs.map fun y => Value.ref y.2.1 := by
    refine List.ext_getElem? fun j => ?_
    rw [List.getElem?_map]
    cases e : vs[j]? with
    | none =>
      rw [List.getElem?_eq_none_iff] at e
      rw [List.getElem?_eq_none (by omega)]
      rfl
    | some y =>
      have hj : j < acc.toList.length := by
        have := (List.getElem?_eq_some_iff.mp e).1
        omega
      rw [List.getElem?_eq_getElem hj]
      obtain ⟨hi, e2⟩ := hacc.2 j acc.toList[j] (by rw [← Array.getElem?_toList]; exact List.getElem?_eq_getElem hj)
      rw [e2]
      have e3 : es.toList[j]? = some (entryOfKey (tupleKind (mixKind X.prog X.w)) y) := by rw [hes, List.getElem?_map, e]; rfl
      have e4 : es[j] = entryOfKey (tupleKind (mixKind X.prog X.w)) y := by
        rw [Array.getElem?_toList, Array.getElem?_eq_getElem hi] at e3
        exact Option.some.inj e3
      rw [e4]
      rfl
  have I1 : L2.Inv X pins σ H { s with heap := h', toks := tk } := I.kept hk
  have kof : ∀ v ∈ acc.toList, ∃ t ns, v = Value.ref t ∧ H t = some (.tup (ns.map V.int)) ∧ ns ≠ [] := fun v hv => by
    rw [hacc'] at hv
    obtain ⟨y, hy, rfl⟩ := List.mem_map.mp hv
    obtain ⟨j, hj⟩ := List.mem_iff_getElem?.mp hy
    obtain ⟨k, hk, e⟩ := each j y hj
    exact ⟨_, k, rfl, e, hne k (List.mem_of_getElem? hk)⟩
  refine wpAny_bind (wpAny_newList ?_ (by rw [hal]; omega))
  have hoL : (h'.push (seqObj "list" acc.toList.toArray 0)).get? h'.objs.size = some (seqObj "list" acc.toList.toArray 0) := Heap.get?_push_size _ rfl
  show wpAny _ _ _ _ _ { s with heap := h'.push (seqObj "list" acc.toList.toArray 0), toks := tk }
  refine wpAny_bind (wpAny_holding (wpAny_call_entry PyProof.Rows.slot_list_sort ⟨_, hoL, rfl⟩ PyProof.Rows.entry_list_sort
    (SrtO.list_sort_ord (s := { s with heap := h'.push (seqObj "list" acc.toList.toArray 0), toks := tk }) (ltv := fun v u => HT.lexLt (intsAt H (backV v)) (intsAt H (backV u))) (swo_lexK fun v => intsAt H (backV v)) hoL (by rw [hal]; omega) (fun h2 => tups_sortable (by omega) (fun v hv => ?_) fun ob e => ?_) fun out g1 g2 => ⟨_, rfl, ?_⟩) (PyProof.Rows.args_list_sort _)))
  · obtain ⟨t, ns, rfl, ht, nn⟩ := kof v hv
    have : intsAt H (backV (Value.ref t)) = ns := intsAt_of ht
    rw [this]
    exact ⟨(tup_isI I1 ht).keeps fun b ob e _ => Heap.get?_push_of_some _ e, nn⟩
  · have e' : some ob = some (seqObj "list" acc.toList.toArray 0) := e.symm.trans hoL
    cases e'
    intro c
    exact absurd (Value.type.inj c) (by decide)
  obtain ⟨e', he'⟩ := PyProof.Rows.sortedHeap_at (vs := acc.toList) (out := out.toArray) hoL
  have rf : ∀ u ∈ out, ∃ t ns, u = Value.ref t ∧ H t = some (.tup (ns.map V.int)) ∧ ns ≠ [] := fun u hu => kof u (g2.perm.mem_iff.mp hu)
  have vb : Vals (out.map backV) out := vals_back fun u hu => by
    obtain ⟨t, _, e, _⟩ := rf u hu
    exact ⟨t, e⟩
  have hlen : (out.map backV).length ≤ sizeLine := by
    rw [List.length_map, g2.perm.length_eq]
    omega
  have hks' : (acc.toList.map backV).map (intsAt H) = ks := by
    rw [hacc', List.map_map, List.map_map]
    refine List.ext_getElem? fun j => ?_
    rw [List.getElem?_map]
    cases e : vs[j]? with
    | none =>
      rw [List.getElem?_eq_none_iff] at e
      rw [List.getElem?_eq_none (by omega)]
      rfl
    | some y =>
      obtain ⟨k, hk, e2⟩ := each j y e
      rw [hk]
      show some (intsAt H (V.ref y.2.1)) = some k
      rw [intsAt_of e2]
  refine wpAny_pure ⟨_, rfl, .ref h'.objs.size, upd H h'.objs.size (.lst (out.map backV)), I1.laid (t' := tk) (fun b u e => ?_) (Nat.le_refl _)
    (show ObjOk X.prog X.w _ _ _ (.lst (out.map backV)) from ⟨hlen, out, e', vb, he'⟩), rfl, q _ _ ?_ ?_ (fun y hy => ?_) (I1.hok.fresh (Nat.le_refl _))⟩
  · have hb : b < h'.objs.size := Heap.lt_size e
    rw [PyProof.Rows.sortedHeap_old (Nat.ne_of_lt hb) (by rw [size_push']; exact Nat.lt_succ_of_lt hb)]
    exact Heap.get?_push_of_some _ e
  · rw [← hks']
    exact (g2.perm.map _).map _
  · rw [List.map_map, List.pairwise_map]
    exact g1
  · obtain ⟨u, hu, rfl⟩ := List.mem_map.mp hy
    obtain ⟨t, ns, rfl, ht, _⟩ := rf u hu
    refine ⟨t, rfl, ?_⟩
    show H t = some (.tup ((intsAt H (V.ref t)).map V.int))
    rw [intsAt_of ht]
    exact ht
end
/-! ### sorting, plainly -/
section
variable {α : Type} {lt : α → α → Bool}
theorem insB_perm (x : α) : ∀ l : List α, (insB lt x l).Perm (x :: l)
  | [] => List.Perm.refl _
  | y :: l => by
    unfold insB
    split
    · exact ((insB_perm x l).cons y).trans (List.Perm.swap x y l)
    · exact List.Perm.refl _
theorem sortB_perm : ∀ l : List α, (sortB lt l).Perm l
  | [] => List.Perm.refl _
  | x :: l => (insB_perm x _).trans ((sortB_perm l).cons x)
theorem insB_srt (O : SrtO.Swo lt) (x : α) : ∀ l : List α, l.Pairwise (fun a b => lt b a = false) → (insB lt x l).Pairwise (fun a b => lt b a = false)
  | [], _ => List.pairwise_singleton _ _
  | y :: l, h => by
    obtain ⟨h1, h2⟩ := List.pairwise_cons.mp h
    unfold insB
    split
    · rename_i hy
      refine List.pairwise_cons.mpr ⟨fun z hz => ?_, insB_srt O x l h2⟩
      rcases List.mem_cons.mp ((insB_perm x l).mem_iff.mp hz) with rfl | hz
      · exact O.asym _ _ hy
      · exact h1 z hz
    · rename_i hy
      have hy : lt y x = false := by simpa using hy
      refine List.pairwise_cons.mpr ⟨fun z hz => ?_, h⟩
      rcases List.mem_cons.mp hz with rfl | hz
      · exact hy
      · exact O.tr x y z hy (h1 z hz)
theorem sortB_srt (O : SrtO.Swo lt) : ∀ l : List α, (sortB lt l).Pairwise (fun a b => lt b a = false)
  | [] => List.Pairwise.nil
  | x :: l => insB_srt O x _ (sortB_srt O l)
theorem srt_uniq (O : SrtO.Swo lt) (anti : ∀ x y, lt x y = false → lt y x = false → x = y) : ∀ {l m : List α}, l.Perm m → l.Pairwise (fun a b => lt b a = false) → m.Pairwise (fun a b => lt b a = false) → l = m
  | [], m, p, _, _ => (List.Perm.eq_nil p.symm).symm
  | x :: l, [], p, _, _ => absurd p.length_eq (by simp)
  | x :: l, y :: m, p, hl, hm => by
    obtain ⟨a1, a2⟩ := List.pairwise_cons.mp hl
    obtain ⟨b1, b2⟩ := List.pairwise_cons.mp hm
    have e : x = y := by
      rcases List.mem_cons.mp (p.mem_iff.mp (List.mem_cons_self (a := x) (l := l))) with e | hx
      · exact e
      · rcases List.mem_cons.mp (p.mem_iff.mpr (List.mem_cons_self (a := y) (l := m))) with e | hy
        · exact e.symm
        · exact anti x y (b1 x hx) (a1 y hy)
    subst e
    rw [srt_uniq O anti p.cons_inv a2 b2]
end
theorem swo_lt : SrtO.Swo ltI := ⟨fun x y h => by have := of_decide_eq_true h; exact decide_eq_false (by omega), fun x y z h1 h2 => by have := of_decide_eq_false h1; have := of_decide_eq_false h2; exact decide_eq_false (by omega)⟩
section
variable {X : Cx} {C : Cn}
theorem tupsOf_rep {ρ : Rho} {H : Hp} : ∀ {l : List D} {ts : List (List Int)} {vs : List V}, tupsOf l = some ts → Reps C ρ H l vs → vs.map (intsAt H) = ts ∧ ∀ v ∈ vs, RfTup H v (intsAt H v) ∧ intsAt H v ≠ []
  | [], ts, vs, e, h => by
    cases (Option.some.inj e : [] = ts)
    rw [show vs = [] from h]
    exact ⟨rfl, by simp⟩
  | d :: l, ts, vs, e, h => by
    obtain ⟨v, r, rfl, h1, h2⟩ := h
    cases d with
    | tup x =>
      have e : (match asInts x, tupsOf l with
        | some (a :: ns), some ts => some ((a :: ns) :: ts)
        | _, _ => none) = some ts := e
      split at e
      · rename_i a ns ts' ea et
        cases e
        obtain ⟨q1, q2⟩ := tupsOf_rep et h2
        obtain ⟨t, ws, rfl, ht, rw'⟩ := h1
        rw [asInts_rep ea rw'] at ht
        have hi := intsAt_of (H := H) ht
        refine ⟨by rw [List.map_cons, q1, hi], fun v hv => ?_⟩
        rcases List.mem_cons.mp hv with rfl | hv
        · rw [hi]
          exact ⟨⟨t, rfl, ht⟩, by simp⟩
        · exact q2 v hv
      · cases e
    | _ => cases e
theorem reps_tups {ρ : Rho} {H : Hp} : ∀ {vs : List V}, (∀ v ∈ vs, RfTup H v (intsAt H v)) → Reps C ρ H ((vs.map (intsAt H)).map intsD) vs
  | [], _ => rfl
  | v :: vs, h => by
    obtain ⟨t, e, ht⟩ := h v List.mem_cons_self
    refine ⟨v, vs, rfl, ⟨t, _, e, ht, ?_⟩, reps_tups fun x hx => h x (List.mem_cons_of_mem _ hx)⟩
    have : ∀ ns : List Int, Reps C ρ H (ns.map D.int) (ns.map V.int) := fun ns => by
      induction ns with
      | nil => rfl
      | cons a l ih => exact ⟨_, _, rfl, rfl, ih⟩
    exact this _
theorem reps_ints {ρ : Rho} {H : Hp} : ∀ ns : List Int, Reps C ρ H (ns.map D.int) (ns.map V.int)
  | [] => rfl
  | a :: l => ⟨_, _, rfl, rfl, reps_ints l⟩
theorem RfTup.grow {H H' : Hp} {v : V} {ns : List Int} (h : RfTup H v ns) (k : Grow H H') : RfTup H' v ns := by
  obtain ⟨t, e, q⟩ := h
  exact ⟨t, e, k _ _ q⟩
theorem tupsOf_T : ∀ {kvs : List (List Key × V)} {ts : List (List Int)}, tupsOf (kvs.map fun p => keyTD p.1) = some ts → kvs.map (·.1) = ts.map (·.map Sum.inl) ∧ ∀ t ∈ ts, t ≠ []
  | [], ts, e => by
    cases (Option.some.inj e : [] = ts)
    exact ⟨rfl, by simp⟩
  | p :: kvs, ts, e => by
    have e : (match asInts (p.1.map keyD), tupsOf (kvs.map fun p => keyTD p.1) with
      | some (a :: ns), some ts => some ((a :: ns) :: ts)
      | _, _ => none) = some ts := e
    split at e
    · rename_i a ns ts' ea et
      cases e
      obtain ⟨q1, q2⟩ := tupsOf_T et
      have : ∀ (ks : List Key) (ms : List Int), asInts (ks.map keyD) = some ms → ks = ms.map Sum.inl := fun ks => by
        induction ks with
        | nil => intro ms h; cases (Option.some.inj h : [] = ms); rfl
        | cons k ks ih =>
          intro ms h
          cases k with
          | inl i =>
            obtain ⟨m2, h2, rfl⟩ := Option.map_eq_some_iff.mp (show (asInts (ks.map keyD)).map (i :: ·) = some ms from h)
            rw [ih m2 h2]
            rfl
          | inr x => cases h
      refine ⟨by rw [List.map_cons, List.map_cons, q1, this _ _ ea], fun t ht => ?_⟩
      rcases List.mem_cons.mp ht with rfl | ht
      · simp
      · exact q2 t ht
    · cases e
/-- the new list is told -/
theorem sort_fin {ρ : Rho} {H : Hp} {ys : List V} {ts : List (List Int)} {p : Addr} {o : Obj} {Q : VK} (hp : H p = none) (k : ∀ v H', Grow H H' → Rep C ρ H' (.lst ((sortB HT.lexLt ts).map intsD)) v → Q v H') (h1 : (ys.map (intsAt H)).Perm ts) (h2 : (ys.map (intsAt H)).Pairwise (fun a b => HT.lexLt b a = false)) (h3 : ∀ y ∈ ys, RfTup H y (intsAt H y)) : Q (.ref p) (upd H p (.frz o (.lst ys))) := by
  have e : ys.map (intsAt H) = sortB HT.lexLt ts := srt_uniq (swo_lexK fun x => x) lex_eq (h1.trans (sortB_perm ts).symm) h2 (sortB_srt (swo_lexK fun x => x) ts)
  refine k _ _ (Grow.upd hp) ⟨p, ys, rfl, ⟨o, upd_same⟩, ?_⟩
  rw [← e]
  exact (reps_tups h3).grow (Grow.upd hp)
theorem snd_sorted (hK : X.K = C.K) (hc : X.calm = true) : CallR X (.builtin "sorted") (rDL C (prD .sorted)) := call_case fun ds d e => by
  match ds, e with
  | [.lst l], e =>
    have e : (match asInts l with
      | some ns => some (D.lst ((sortB ltI ns).map .int))
      | none => (tupsOf l).map fun ts => D.lst ((sortB HT.lexLt ts).map intsD)) = some d := e
    split at e
    · rename_i ns ei
      cases e
      refine CallR.imp (CallR.frz cr_sortedI) fun xs H Q hh => ?_
      obtain ⟨ρ, hr, k⟩ := hh
      obtain ⟨v, rfl, a, vs, rfl, h1, r1⟩ := reps1 hr
      rw [asInts_rep ei r1] at h1
      rw [hK]
      refine ⟨a, ns, rfl, FzL.sq h1, fun ns' p hp hs hn => FzTo.new fun o => k _ _ (Grow.upd hn) ⟨p, _, rfl, ⟨o, upd_same⟩, ?_⟩⟩
      have e2 : ns' = sortB ltI ns := srt_uniq swo_lt (fun x y a b => by have := of_decide_eq_false a; have := of_decide_eq_false b; omega) (hp.trans (sortB_perm ns).symm) (hs.imp fun {a b} h => decide_eq_false (by omega)) (sortB_srt swo_lt ns)
      rw [← e2]
      exact reps_ints _
    · obtain ⟨ts, et, rfl⟩ := Option.map_eq_some_iff.mp e
      refine CallR.imp (CallR.frz cr_sortT) fun xs H Q hh => ?_
      obtain ⟨ρ, hr, k⟩ := hh
      obtain ⟨v, rfl, a, vs, rfl, h1, r1⟩ := reps1 hr
      obtain ⟨t1, t2⟩ := tupsOf_rep et r1
      rw [hK]
      refine ⟨a, vs, intsAt H, rfl, FzL.sq h1, t2, fun ys p hp hs hn => FzTo.new fun o => sort_fin hn k ?_ hs fun y hy => (t2 y (hp.mem_iff.mp hy)).1⟩
      rw [← t1]
      exact hp.map _
  | [.dct true ks vs], e =>
    obtain ⟨ts, et, rfl⟩ := Option.map_eq_some_iff.mp (show (tupsOf ks).map (fun ts => D.lst ((sortB HT.lexLt ts).map intsD)) = some d from e)
    refine CallR.imp (CallR.frz (call_sortDT hc)) fun xs H Q hh => ?_
    obtain ⟨ρ, hr, k⟩ := hh
    obtain ⟨v, rfl, a, o, rfl, h1⟩ := reps1 hr
    rcases h1 with ⟨z, _⟩ | ⟨_, kvs, q, rfl, r⟩
    · cases z
    · obtain ⟨t1, t2⟩ := tupsOf_T et
      exact ⟨a, kvs, ts, rfl, .inr ⟨o, q⟩, t1, t2, fun ys p h1 h2 h3 hn => FzTo.new fun o => sort_fin hn k h1 h2 h3⟩
theorem snd_dictK (hK : X.K = C.K) (hc : X.calm = true) : CallR X (.type "dict") (rDL C (prD .dictK)) := call_case fun ds d e => by
  match ds, e with
  | [.lst l], e =>
    have e : (if l.length ≤ sizeLine then (dictOf false l [] []).map fun p => D.dct false p.1 p.2 else none) = some d := e
    split at e
    · obtain ⟨⟨ks, vs⟩, e0, rfl⟩ := Option.map_eq_some_iff.mp e
      refine CallR.imp (CallR.frzD (call_dictP hc)) fun xs H Q hh => ?_
      obtain ⟨ρ, hr, k⟩ := hh
      obtain ⟨v, rfl, a, ws, rfl, h1, r1⟩ := reps1 hr
      obtain ⟨ps, more, rfl, q2, q3, q4⟩ := dict_pairsK (kvs := []) e0 r1 rfl
      rw [hK]
      refine ⟨a, ps, more, rfl, FzL.sq h1, Paired.mapP q2 fun p kv z => SqT.of z, fun p hp => FzToD.new (.inl ⟨_, rfl⟩) fun o => k _ _ (Grow.upd hp) (dct_rep (o := o) upd_same (.inl ⟨rfl, _, rfl, q3, q4.grow (Grow.upd hp)⟩))⟩
    · cases e
theorem snd_dictT (hK : X.K = C.K) (hc : X.calm = true) (hu : X.A.units + 65 < cLine) : CallR X (.type "dict") (rDL C (prD .dictT)) := call_case fun ds d e => by
  match ds, e with
  | [.lst l], e =>
    have e : (if l.length ≤ sizeLine then (dictOf true l [] []).map fun p => D.dct true p.1 p.2 else none) = some d := e
    split at e
    · obtain ⟨⟨ks, vs⟩, e0, rfl⟩ := Option.map_eq_some_iff.mp e
      refine CallR.imp (CallR.frzD (call_dictT hc hu)) fun xs H Q hh => ?_
      obtain ⟨ρ, hr, k⟩ := hh
      obtain ⟨v, rfl, a, ws, rfl, h1, r1⟩ := reps1 hr
      obtain ⟨ps, more, rfl, q2, q3, q4⟩ := dict_pairsT (kvs := []) e0 r1 rfl
      rw [hK]
      refine ⟨a, ps, more, rfl, FzL.sq h1, q2, fun p hp => FzToD.new (.inr ⟨_, rfl⟩) fun o => k _ _ (Grow.upd hp) (dct_rep (o := o) upd_same (.inr ⟨rfl, _, rfl, q3, q4.grow (Grow.upd hp)⟩))⟩
    · cases e
end
end MC
namespace MC
open PySem PySem.Spec L2
/-! ### enumerate(tuple) -/
open PySem.AutoSeq1 in
theorem meets_enumT (l : Addr) (items : Array Value) (n : Nat) (dct : Option Addr) (sl : Array (Option Value)) :
    Meets (Builtin.«enumerate.__new__» ⟨[.type "enumerate", .ref l], []⟩) (fun _ R s => s.heap.get? l = some { cls := .type "tuple", dict := dct, data := .seq items n, slots := sl } ∧
      R (.ok (.ret (.ref (s.heap.push { cls := .type "tuple_iterator", data := .fields #[.ref l, .int 0 0] }).objs.size)))
        { s with heap := (s.heap.push { cls := .type "tuple_iterator", data := .fields #[.ref l, .int 0 0] }).push { cls := .type "enumerate", data := .fields #[.none, .bool false, .ref s.heap.objs.size, rawInt 0, .none, .none] } }) :=
  .of_wp fun prog w A R s h => by
    obtain ⟨hp, g, d, tk, os⟩ := s; obtain ⟨hl, h⟩ := h
    have hsub := sub_enumerate
    have hL : Heap.IsTuple (Shared.heap ⟨hp, g, d, tk, os⟩) l items := ⟨_, hl, rfl, n, rfl⟩
    wp_walk using wpAny_loadPart' hl
    refine wpAny_stack_any fun st => wpAny_pure ?_
    split
    · rename_i c _ _ _ _ _
      cases (c == Value.type "enumerate")
      · wp_walk using wpAny_loadPart' hl, wpAny_pyIter_tuple hL
        exact ⟨_, rfl, h⟩
      · wp_walk using wpAny_loadPart' hl, wpAny_pyIter_tuple hL
        exact ⟨_, rfl, h⟩
    · wp_walk using wpAny_loadPart' hl, wpAny_pyIter_tuple hL
      exact ⟨_, rfl, h⟩
section
variable {prog : Program} {w : World} {A : Around} {E : Value → Shared → Prop} {s : Shared}
theorem call_enumT {l : Addr} {items : Array Value} {Q : Value → Shared → Prop} (hL : s.heap.IsTuple l items)
    (h : ∀ h', IsEnum h' (s.heap.objs.size + 1) s.heap.objs.size 0 .none → h'.IsTupleIter s.heap.objs.size l 0 → h'.objs.size = s.heap.objs.size + 2 →
      (∀ b o, s.heap.get? b = some o → h'.get? b = some o) → Q (.ref (s.heap.objs.size + 1)) { s with heap := h' }) :
    wpAny (model prog w) A (call (.type "enumerate") [.ref l]) Q E s := by
  obtain ⟨⟨c, dct, dt, sl⟩, hl, hc, n, hd⟩ := hL
  replace hc : c = .type "tuple" := hc
  replace hd : dt = .seq items n := hd
  subst hc hd
  refine callType_new F.called_enumerate (by decide) (F.typeCall_enumerate_1 _) (F.newCall_enumerate_1 _) (fun obj => F.args_object_init_2 obj _) F.entry_enumerate_new
    (meets_enumT l items n dct sl) ⟨hl, ?_⟩
  have hz : (s.heap.push { cls := .type "tuple_iterator", data := .fields #[.ref l, .int 0 0] }).objs.size = s.heap.objs.size + 1 := Heap.size_push ..
  show _ ∧ _
  rw [hz]
  have he : IsEnum ((s.heap.push { cls := .type "tuple_iterator", data := .fields #[.ref l, .int 0 0] }).push
      { cls := .type "enumerate", data := .fields #[.none, .bool false, .ref s.heap.objs.size, rawInt 0, .none, .none] }) (s.heap.objs.size + 1) s.heap.objs.size 0 .none := by
    have := Heap.get?_push_size (s.heap.push { cls := .type "tuple_iterator", data := .fields #[.ref l, .int 0 0] })
      (o := { cls := .type "enumerate", data := .fields #[.none, .bool false, .ref s.heap.objs.size, rawInt 0, .none, .none] }) rfl
    rw [hz] at this; exact this
  refine ⟨⟨_, he, rfl⟩, h _ he ⟨_, Heap.get?_push_of_some _ (Heap.get?_push_size _ rfl), rfl, rfl⟩ (by rw [Heap.size_push, hz]) fun b o x => Heap.get?_push_of_some _ (Heap.get?_push_of_some _ x)⟩
end
def IteT (K : PySem.W.Frag) (a : Addr) : L2.It :=
  ⟨fun i H => ∃ (xs : List V) (x : V), SqT K H a xs ∧ xs[i]? = some x, fun i H v H' => ∃ T x, v = .ref T ∧ H T = none ∧ H' = upd H T (.tup [.int (i : Nat), x]) ∧ ∀ xs, SqT K H a xs → xs[i]? = some x, fun i H => ∃ xs : List V, SqT K H a xs ∧ xs.length ≤ i⟩
open PyProof.Rows in
theorem turn_enumT {P : Program} {w : World} {K : PySem.W.Frag} {elts : List Expr} {kk : Nat} {tpos : Pos} (a e it : Addr) :
    Turn P w K (.Tuple elts kk tpos) (IteT K a) [e, it] e (fun i h => (∃ old, IsEnum h e it ((i : Nat) : Int) old) ∧ h.IsTupleIter it a i ∧ e ≠ it) where
  mem := by simp
  obj := fun i h st b hb => by
    obtain ⟨⟨old, he⟩, ⟨o, ho, hc, hd⟩, _⟩ := st
    have e' : b = e ∨ b = it := by simpa using hb
    rcases e' with z | z
    · rw [z]; exact ⟨_, he, fun v q => nomatch q⟩
    · rw [z]; exact ⟨o, ho, fun v q => by rw [hd] at q; cases q⟩
  keep := fun i h h' st k => let ⟨⟨old, he⟩, hi, hne⟩ := st; ⟨⟨old, k e (by simp) _ he⟩, hi.at fun o q => k it (by simp) o q, hne⟩
  item := by
    intro X hP hw hK hc i pins s σ H E I hf st hg
    subst hP hw hK
    obtain ⟨⟨old, he⟩, hit, hne⟩ := st
    obtain ⟨xs, x, hq, hx⟩ := hg
    obtain ⟨its, rv, p, hz⟩ := I.tuple hq
    obtain ⟨u, hu, ru⟩ := rv.get hx
    have hel : e < s.heap.objs.size := Heap.lt_size he
    have hil : it < s.heap.objs.size := by obtain ⟨_, q, _⟩ := hit; exact Heap.lt_size q
    have hii : i < its.toArray.size := (Array.getElem?_eq_some_iff.mp (show its.toArray[i]? = some u by simpa using hu)).1
    have hta : s.heap.IsTuple a its.toArray := p
    have hai : a ≠ it := fun z => by
      obtain ⟨o, ho, _, hd⟩ := hit
      obtain ⟨o2, ho2, _, n, hd2⟩ := hta
      rw [z, ho] at ho2
      cases ho2
      rw [hd] at hd2
      cases hd2
    have hae : a ≠ e := fun z => by
      obtain ⟨o2, ho2, _, n, hd2⟩ := hta
      rw [z] at ho2
      have := ho2.symm.trans he
      cases this
      cases hd2
    refine wpAny_pyNext_enum_itemD (Draws.tuple (A := X.A.in1) (I.ok.hd hc) it a hai its.toArray) he ⟨hit, hta⟩ hii hne (by simp [hne, Ne.symm hae]) fun u' h' tk hP ho st' hT hsz hk => ?_
    obtain ⟨hit', _⟩ := st'
    have eu : u' = u := by
      have h1 : its.toArray[i]? = some u' := hP
      have h2 : its.toArray[i]? = some u := by simpa using hu
      exact Option.some.inj (h1.symm.trans h2)
    subst eu
    refine ⟨_, rfl, wpAny_letOwnedTupleGo_enum (s := { s with heap := h', toks := tk + 1 }) ho fun h'' he' sb => ?_⟩
    have hT2 : h''.get? s.heap.objs.size = some { cls := .type "tuple", data := .seq #[.int i tk, u'] } := (sb.2 _ (Nat.ne_of_gt hel)).trans hT
    have new : ObjOk X.prog X.w (upd H s.heap.objs.size (.tup [.int (i : Nat), x])) h'' s.heap.objs.size (.tup [.int (i : Nat), x]) :=
      ⟨by show 2 ≤ sizeLine; decide, [.int i tk, u'], .cons ⟨_, rfl⟩ (.cons ru .nil), ⟨_, hT2, rfl, _, rfl⟩⟩
    have I1 : L2.Inv X pins σ (upd H s.heap.objs.size (.tup [.int (i : Nat), x])) { s with heap := h'', toks := tk + 1 } :=
      I.turnedNew (ch := [e, it]) (fun b ob hb q => (sb.2 b (fun z => hb (by simp [z]))).trans (hk b ob (fun z => hb (by simp [z])) (fun z => hb (by simp [z])) q)) hf (Nat.le_refl _) new
    refine ⟨.ref s.heap.objs.size, _, I1, rfl, ⟨_, x, rfl, I.hok.fresh (Nat.le_refl _), rfl, fun ys hy => by rw [I.tuple_inj hy hq]; exact hx⟩, ⟨⟨u', ?_⟩, hit'.at fun o q => (sb.2 it (Ne.symm hne)).trans q, hne⟩, fun b hb => ?_⟩
    · have e1 : ((i + 1 : Nat) : Int) = (i : Int) + 1 := by omega
      rw [e1]; exact he'
    · have hb' : b < s.heap.objs.size := by
        have e' : b = e ∨ b = it := by simpa using hb
        rcases e' with z | z
        · rw [z]; exact hel
        · rw [z]; exact hil
      rw [upd_ne (Nat.ne_of_lt hb')]
      exact (hf b hb).1
  done := by
    intro X hP hw hK hc i pins s σ H E I hf st hg
    subst hP hw hK
    obtain ⟨⟨old, he⟩, hit, hne⟩ := st
    obtain ⟨xs, hq, hx⟩ := hg
    obtain ⟨its, rv, p, hz⟩ := I.tuple hq
    obtain ⟨f0, f1, f2, f3, f4, f5⟩ := hf it (by simp)
    have hl := rv.length
    have hta : s.heap.IsTuple a its.toArray := p
    have hT : s.TypeIs (.ref e) "enumerate" := ⟨_, he, rfl⟩
    unfold pyNext
    refine wpAny_bind (wpAny_attempt (wpAny_callSpecial?_slot (name := Str.ofString "__next__") hT F.slot_enumerate_next
      (wpAny_call_entry F.slot_enumerate_next hT F.entry_enumerate_next ?_ (F.args_enumerate_next_1 _))))
    show wpAny _ _ (field (.ref e) 2 >>= _) _ _ _
    refine wpAny_bind (wpAny_field he rfl (x := .ref it) rfl ?_)
    refine wpAny_bind (wpAny_nextOf_tuple_end (I.ok.hd hc) hit hta (by simp; omega) fun h' x he' hx' => ?_)
    obtain ⟨o, ho, hc2⟩ := hx'
    refine wpAny_bind (wpAny_isInstance (T := "StopIteration") (b := true) ⟨o, ho, hc2⟩ isSubtype_stop ?_)
    exact wpAny_pure ⟨rfl, I.turned (t' := s.toks) (fun b o hb q => he' b o hb q) f0 f1 f3 f4 f5⟩
  self := fun A i s Q E st h => let ⟨⟨_, he⟩, _⟩ := st; wpAny_pyIter_enum he h
end MC
namespace MC
open PySem PySem.Spec L2

theorem bind_some {α β : Type} {m : M α} {f : α → M β} {g g' : G} {r : R β} (h : M.bind m f g = some (r, g')) : (∃ c, m g = some (.ex c, g') ∧ r = .ex c) ∨ ∃ a g1, m g = some (.ok a, g1) ∧ f a g1 = some (r, g') := by
  unfold M.bind at h
  cases e : m g with
  | none => rw [e] at h; cases h
  | some p =>
    obtain ⟨r1, g1⟩ := p
    rw [e] at h
    cases r1 with
    | ex c =>
      have h2 : some ((.ex c : R β), g1) = some (r, g') := h
      cases h2
      exact .inl ⟨c, rfl, rfl⟩
    | ok a => exact .inr ⟨a, g1, rfl, h⟩
theorem opt_some {α : Type} {o : Option α} {g g' : G} {r : R α} (h : M.opt o g = some (r, g')) : ∃ a, o = some a ∧ r = .ok a ∧ g' = g := by
  cases o with
  | none => cases h
  | some a =>
    have h2 : some ((.ok a : R α), g) = some (r, g') := h
    cases h2
    exact ⟨a, rfl, rfl, rfl⟩
theorem pure_some {α : Type} {a : α} {g g' : G} {r : R α} (h : M.pure a g = some (r, g')) : r = .ok a ∧ g' = g := by
  have h2 : some ((.ok a : R α), g) = some (r, g') := h
  cases h2
  exact ⟨rfl, rfl⟩

/-! ### the changing objects -/
def StoAt (H : Hp) : GO → Addr × Addr → Prop
  | .town c r, p => H p.1 = some (.dK [(.inr "count", .int c), (.inr "rests", .ref p.2)]) ∧ H p.2 = some (.dK (r.map fun q => (.inl q.1, .int q.2)))
structure Sto (T : List (Addr × Str)) (ρ : Rho) (g : G) (H : Hp) : Prop where
  len : g.length = ρ.length
  at_ : ∀ (n : Nat) (o : GO) (p : Addr × Addr), g[n]? = some o → ρ[n]? = some p → StoAt H o p
  sep : (ρ.flatMap fun p => [p.1, p.2]).Nodup
  tab : LamX.Tabs T H
theorem StoAt.one {H : Hp} {o : GO} {p : Addr × Addr} (h : StoAt H o p) : (∃ kvs, H p.1 = some (.dK kvs)) ∧ ∃ kvs, H p.2 = some (.dK kvs) := by
  cases o with
  | town c r => exact ⟨⟨_, h.1⟩, ⟨_, h.2⟩⟩
theorem Sto.rok {T : List (Addr × Str)} {ρ : Rho} {g : G} {H : Hp} (s : Sto T ρ g H) : RhoOk ρ H := fun b ⟨p, hp, e⟩ => by
  obtain ⟨n, hn⟩ := List.mem_iff_getElem?.mp hp
  have hl : n < g.length := by
    rw [s.len]
    exact (List.getElem?_eq_some_iff.mp hn).1
  have := (s.at_ n g[n] p (List.getElem?_eq_getElem hl) hn).one
  rcases e with rfl | rfl
  · exact this.1
  · exact this.2
theorem Sto.grow {T : List (Addr × Str)} {ρ : Rho} {g : G} {H H' : Hp} (s : Sto T ρ g H) (k : Grow H H') : Sto T ρ g H' := ⟨s.len, fun n o p h1 h2 => by
  have := s.at_ n o p h1 h2
  cases o with
  | town c r => exact ⟨k _ _ this.1, k _ _ this.2⟩, s.sep, s.tab.ext k⟩
/-- .. where all but these stay -/
theorem Tabs.same {T : List (Addr × Str)} {H H' : Hp} (s : LamX.Tabs T H) (k : ∀ b u, H b = some u → isCd u → H' b = some u) : LamX.Tabs T H' := fun p hp => by
  obtain ⟨ps, h1, h2, h3⟩ := s p hp
  refine ⟨ps, k _ _ h1 trivial, h2, fun pos cv hc => ?_⟩
  obtain ⟨c, e1, e2⟩ := h3 pos cv hc
  exact ⟨c, e1, k _ _ e2 trivial⟩
theorem Sto.same {T : List (Addr × Str)} {ρ : Rho} {g : G} {H H' : Hp} (s : Sto T ρ g H) (k : ∀ b, inRho ρ b → H' b = H b) (kt : ∀ b u, H b = some u → isCd u → H' b = some u) : Sto T ρ g H' := ⟨s.len, fun n o p h1 h2 => by
  have := s.at_ n o p h1 h2
  have m := List.mem_of_getElem? h2
  cases o with
  | town c r => exact ⟨(k _ ⟨p, m, .inl rfl⟩).trans this.1, (k _ ⟨p, m, .inr rfl⟩).trans this.2⟩, s.sep, Tabs.same s.tab kt⟩

/-! ### a def's frame -/
def SlR (C : Cn) (ρ : Rho) (H : Hp) : Sl → Option V → Prop
  | .un, _ => True
  | .imm d, ov => ∃ v, ov = some v ∧ Rep C ρ H d v
  | .ml l, ov => ∃ a vs, ov = some (.ref a) ∧ H a = some (.lst vs) ∧ Reps C ρ H l vs
  | .md t ks ds, ov => ∃ a u, ov = some (.ref a) ∧ H a = some u ∧ DcR C ρ H t ks ds u
/-- what the slot owns -/
def own : Sl → Option V → Option Addr
  | .ml _, some (.ref a) => some a
  | .md _ _ _, some (.ref a) => some a
  | _, _ => none
structure Fm (C : Cn) (H0 : Hp) (ρ0 : Rho) (σ : List Sl) (σV : L2.St) (ρ : Rho) (g : G) (H : Hp) : Prop where
  len : σ.length = σV.length
  rep : ∀ (i : Nat) s ov, σ[i]? = some s → σV[i]? = some ov → SlR C ρ H s ov
  sep : ∀ (i j : Nat) s t ov ow a, σ[i]? = some s → σV[i]? = some ov → own s ov = some a → σ[j]? = some t → σV[j]? = some ow → own t ow = some a → i = j
  new : ∀ (i : Nat) s ov a, σ[i]? = some s → σV[i]? = some ov → own s ov = some a → Fre C.tb H0 a ∧ ¬ inRho ρ a
  ext : Ext C.tb ρ0 H0 H
  pre : ρ0 <+: ρ
  nrh : ∀ b, inRho ρ b → inRho ρ0 b ∨ Fre C.tb H0 b
  sto : Sto C.tb ρ g H
section
variable {C : Cn} {H0 : Hp} {ρ0 : Rho} {σ : List Sl} {σV : L2.St} {ρ ρ' : Rho} {g g' : G} {H H' : Hp}
theorem Fm.rok (F : Fm C H0 ρ0 σ σV ρ g H) : RhoOk ρ H := F.sto.rok
theorem SlR.own_at {s : Sl} {ov : Option V} {a : Addr} (h : SlR C ρ H s ov) (e : own s ov = some a) : ∃ u, H a = some u ∧ ¬ isCd u := by
  cases s with
  | ml l =>
    obtain ⟨b, vs, rfl, hb, _⟩ := h
    cases (Option.some.inj e : b = a)
    exact ⟨_, hb, fun z => z⟩
  | md t ks ds =>
    obtain ⟨b, u, rfl, hb, dc⟩ := h
    cases (Option.some.inj e : b = a)
    exact ⟨_, hb, dc.nc⟩
  | _ => cases ov <;> cases e
theorem SlR.to {s : Sl} {ov : Option V} (h : SlR C ρ H s ov) (k : Keeps C.K H H') (pre : ρ <+: ρ') (o : ∀ a u, own s ov = some a → H a = some u → ¬ isTbl u → H' a = some u) : SlR C ρ' H' s ov := by
  cases s with
  | un => trivial
  | imm d =>
    obtain ⟨v, e, r⟩ := h
    exact ⟨v, e, r.to k pre⟩
  | ml l =>
    obtain ⟨a, vs, rfl, e, r⟩ := h
    exact ⟨a, vs, rfl, o a _ rfl e (fun z => z), r.to k pre⟩
  | md t ks ds =>
    obtain ⟨a, u, rfl, e, dc⟩ := h
    exact ⟨a, u, rfl, o a u rfl e dc.nt, dc.to k pre⟩
theorem Ext.trans {T : List (Addr × Str)} {ρ ρ' : Rho} {H H1 H2 : Hp} (a : Ext T ρ H H1) (b : Ext T ρ' H1 H2) (n : ∀ b, inRho ρ' b → inRho ρ b ∨ Fre T H b) : Ext T ρ H H2 := by
  have no : ∀ c u, H c = some u → ¬ inRho ρ c → (isTbl u → inTb T c) → ¬ inRho ρ' c := fun c u h nr ht z => by
    rcases n c z with z | z
    · exact nr z
    · obtain ⟨z1, z2⟩ := z u h
      exact z2 (ht z1)
  refine ⟨fun c u h nr nt => b.at_ c u (a.at_ c u h nr nt) (no c u h nr (fun z => absurd z nt)) nt, fun c u h nr t ht => ?_⟩
  obtain ⟨u1, h1, t1⟩ := a.tbl c u h nr t ht
  exact b.tbl c u1 h1 (no c u h nr fun _ => ht) t1 ht
/-- the heap has grown -/
theorem Fm.grow (F : Fm C H0 ρ0 σ σV ρ g H) (k : Grow H H') : Fm C H0 ρ0 σ σV ρ g H' where
  len := F.len
  rep := fun i s ov h1 h2 => (F.rep i s ov h1 h2).to k.keeps (List.prefix_refl _) fun a u _ e _ => k _ _ e
  sep := F.sep
  new := F.new
  ext := F.ext.trans (Ext.of _ ρ k) F.nrh
  pre := F.pre
  nrh := F.nrh
  sto := F.sto.grow k
/-- what an expression may do to the heap -/
structure Stp (T : List (Addr × Str)) (ρ : Rho) (H : Hp) (ρ' : Rho) (H' : Hp) : Prop where
  ext : Ext T ρ H H'
  pre : ρ <+: ρ'
  new : ∀ b, inRho ρ' b → inRho ρ b ∨ Fre T H b
theorem Stp.refl {T : List (Addr × Str)} (ρ : Rho) (H : Hp) : Stp T ρ H ρ H := ⟨.refl _ _ _, List.prefix_refl _, fun _ h => .inl h⟩
theorem Stp.of {T : List (Addr × Str)} (ρ : Rho) {H H' : Hp} (k : Grow H H') : Stp T ρ H ρ H' := ⟨.of _ _ k, List.prefix_refl _, fun _ h => .inl h⟩
theorem Stp.keeps {K : PySem.W.Frag} {T : List (Addr × Str)} {ρ ρ' : Rho} {H H' : Hp} (ok : RhoOk ρ H) (s : Stp T ρ H ρ' H') : Keeps K H H' := s.ext.keeps ok
/-- free behind it: free ahead of it -/
theorem Ext.fre {T : List (Addr × Str)} {ρ : Rho} {H H1 : Hp} {c : Addr} (a : Ext T ρ H H1) (nr : ¬ inRho ρ c) (z : Fre T H1 c) : Fre T H c := fun u h => by
  by_cases ht : isTbl u
  · refine ⟨ht, fun hi => ?_⟩
    obtain ⟨u', h', _⟩ := a.tbl c u h nr ht hi
    exact (z u' h').2 hi
  · exact absurd (z u (a.at_ c u h nr ht)).1 ht
theorem Stp.trans {T : List (Addr × Str)} {ρ ρ1 ρ2 : Rho} {H H1 H2 : Hp} (a : Stp T ρ H ρ1 H1) (b : Stp T ρ1 H1 ρ2 H2) : Stp T ρ H ρ2 H2 := by
  refine ⟨a.ext.trans b.ext a.new, a.pre.trans b.pre, fun c z => ?_⟩
  rcases b.new c z with z | z
  · exact a.new c z
  · by_cases hr : inRho ρ c
    · exact .inl hr
    · exact .inr (a.ext.fre hr z)
/-- behind a call -/
theorem Fm.step (F : Fm C H0 ρ0 σ σV ρ g H) (st : Stp C.tb ρ H ρ' H') (s : Sto C.tb ρ' g' H') : Fm C H0 ρ0 σ σV ρ' g' H' where
  len := F.len
  rep := fun i s ov h1 h2 => (F.rep i s ov h1 h2).to (st.keeps F.rok) st.pre fun a u ho q nt => st.ext.at_ a _ q (F.new i s ov a h1 h2 ho).2 nt
  sep := F.sep
  new := fun i s ov a h1 h2 h3 => by
    obtain ⟨z1, z2⟩ := F.new i s ov a h1 h2 h3
    refine ⟨z1, fun z => ?_⟩
    rcases st.new a z with z | z
    · exact z2 z
    · obtain ⟨u, q, nc⟩ := (F.rep i s ov h1 h2).own_at h3
      exact isCd.of nc (z u q).1
  ext := F.ext.trans st.ext F.nrh
  pre := F.pre.trans st.pre
  nrh := fun b z => by
    rcases st.new b z with z | z
    · exact F.nrh b z
    · by_cases hr : inRho ρ0 b
      · exact .inl hr
      · exact .inr (F.ext.fre hr z)
  sto := s
theorem Fm.get (F : Fm C H0 ρ0 σ σV ρ g H) {i : Nat} {d : D} (h : slot σ i = .imm d) : ∃ v, σV[i]? = some (some v) ∧ Rep C ρ H d v := by
  unfold slot at h
  rw [List.getD_eq_getElem?_getD] at h
  cases q : σ[i]? with
  | none => rw [q] at h; cases h
  | some s =>
    rw [q] at h
    have h : s = .imm d := h
    subst h
    have hi : i < σV.length := by
      rw [← F.len]
      exact (List.getElem?_eq_some_iff.mp q).1
    obtain ⟨v, e, r⟩ := F.rep i _ σV[i] q (List.getElem?_eq_getElem hi)
    exact ⟨v, by rw [List.getElem?_eq_getElem hi, e], r⟩
end
end MC
namespace MC
open PySem PySem.Spec L2

/-! ### shapes of the text -/
def okE : Expr → Bool
  | .Starred _ _ => false
  | .Set _ _ _ => false
  | .Slice _ _ _ _ => false
  | _ => true
def noComp : Expr → Bool
  | .ListComp _ _ _ _ => false
  | .SetComp _ _ _ _ => false
  | .DictComp _ _ _ _ _ => false
  | _ => true
def plainT : Expr → Bool
  | .UnaryOp _ _ _ => false
  | .BoolOp _ _ _ => false
  | .IfExp _ _ _ _ => false
  | .Compare _ _ _ _ => false
  | _ => true
def noCall : Expr → Bool
  | .Call _ _ _ _ => false
  | _ => true
theorem star_of {e : Expr} (h : okE e = true) (es : List Expr) (env : Env) : starEach (e :: es) env = (false, eval e env) :: starEach es env := by
  cases e <;> first | rfl | cases h
theorem behind_of {e : Expr} (h : okE e = true) (op : CmpOp) : behindInMarks op e = false := by
  cases e <;> first | rfl | cases h
theorem plainIx_of {e : Expr} (h : okE e = true) : PlainIx e := fun o i => by
  cases e <;> first | rfl | cases h
theorem isTrue_of {e : Expr} (h : plainT e = true) (env : Env) (whole : Sem Value) : isTrue e env whole = (do let v ← whole; standAt e.pos; holding [v] (truthy v)) := by
  cases e <;> first | rfl | cases h
theorem swaps_of {e : Expr} (h : noComp e = true) (t : Option Expr) (l : Nat) (env : Env) : swapsWith e t l env = pure false := by
  cases e <;> first | rfl | cases h
theorem folded_of {e : Expr} (h : okE e = true) (env : Env) (x : Value) : foldedSetIterable e env x = pure x := by
  cases e <;> first | rfl | cases h
theorem base_of {e : Expr} (h : noCall e = true) (f : Str) (env : Env) (w : Sem Value) : attributeBase e f env w = w := by
  cases e <;> first | rfl | cases h
/-- no super() -/
def baseB : Expr → Bool
  | .Call (.Name _ _) [] [] _ => false
  | _ => true
theorem base_ofB {e : Expr} (h : baseB e = true) (f : Str) (env : Env) (w : Sem Value) : attributeBase e f env w = w := by
  unfold attributeBase
  split
  · cases h
  · rfl
theorem stars_of : ∀ {es : List Expr}, es.all okE = true → ∀ (env : Env) (pos : Pos), (backTo pos (starEach es env)).any (·.1) = false
  | [], _, _, _ => rfl
  | e :: es, h, env, pos => by
    obtain ⟨h1, h2⟩ := Bool.and_eq_true_iff.mp (show (okE e && es.all okE) = true from h)
    rw [star_of h1]
    show (false || (backTo pos (starEach es env)).any (·.1)) = false
    rw [stars_of h2 env pos]
    rfl
theorem last_of {b c : Expr} {op op' : CmpOp} (h : okE c = true) : lastMarks [op, op'] [b, c] = false := behind_of h op'

/-! ### what is run -/
section
variable (C : Cn) (W : WX) (H0 : Hp) (ρ0 : Rho)
/-- a run has come to mg; k: what is wanted behind it -/
def At {α : Type} (σV : L2.St) (σ : List Sl) (ρ : Rho) (g : G) (H : Hp) (mg : Option (R α × G)) (k : α → Rho → Hp → Prop) : Prop :=
  Fm C H0 ρ0 σ σV ρ g H ∧ ∃ r g', mg = some (r, g') ∧ match r with
    | .ok a => ∀ ρ' H', Fm C H0 ρ0 σ σV ρ' g' H' → Stp C.tb ρ H ρ' H' → k a ρ' H'
    | .ex c => ∀ ρ' H', Fm C H0 ρ0 σ σV ρ' g' H' → W (.ref (He.ga C.K c)) none σV H'
def Run {α : Type} (σV : L2.St) (H : Hp) (m : List Sl → M α) (k : α → Rho → Hp → Prop) : Prop := ∃ σ ρ g, At C W H0 ρ0 σV σ ρ g H (m σ g) k
def lift (m : List Sl → M D) : TE := fun σV H Q => Run C W H0 ρ0 σV H m fun d ρ' H' => ∀ v, Rep C ρ' H' d v → Q v H'
def liftA (m : List Sl → M (List D)) : TA := fun σV H Q => Run C W H0 ρ0 σV H m fun ds ρ' H' => ∀ vs, Reps C ρ' H' ds vs → Q vs H'
def liftT (m : List Sl → M Bool) : TT := fun σV H Q => Run C W H0 ρ0 σV H m fun b _ H' => Q b H'
def liftO (m : List Sl → M (Option Int)) : TO := fun σV H Q => Run C W H0 ρ0 σV H m fun o _ H' => Q o H'
end
section
variable {C : Cn} {W : WX} {H0 : Hp} {ρ0 : Rho} {X : Cx} {σV : L2.St} {σ : List Sl} {ρ : Rho} {g : G} {H : Hp}
theorem At.bind {α β : Type} {m : M α} {f : α → M β} {k : β → Rho → Hp → Prop} (h : At C W H0 ρ0 σV σ ρ g H (M.bind m f g) k) {k1 : α → Rho → Hp → Prop}
    (q : ∀ a ρ1 H1 g1, Stp C.tb ρ H ρ1 H1 → At C W H0 ρ0 σV σ ρ1 g1 H1 (f a g1) k → k1 a ρ1 H1) : At C W H0 ρ0 σV σ ρ g H (m g) k1 := by
  obtain ⟨F, r, g', hm, hk⟩ := h
  rcases bind_some hm with ⟨c, h1, rfl⟩ | ⟨a, g1, h1, h2⟩
  · exact ⟨F, .ex c, g', h1, hk⟩
  · refine ⟨F, .ok a, g1, h1, fun ρ1 H1 F1 s1 => q a ρ1 H1 g1 s1 ⟨F1, r, g', h2, ?_⟩⟩
    cases r with
    | ok b => exact fun ρ' H' F' s' => hk ρ' H' F' (s1.trans s')
    | ex c => exact hk
theorem At.imp {α : Type} {mg : Option (R α × G)} {k k1 : α → Rho → Hp → Prop} (h : At C W H0 ρ0 σV σ ρ g H mg k) (q : ∀ a ρ1 H1, Stp C.tb ρ H ρ1 H1 → RhoOk ρ H → k a ρ1 H1 → k1 a ρ1 H1) : At C W H0 ρ0 σV σ ρ g H mg k1 := by
  obtain ⟨F, r, g', hm, hk⟩ := h
  refine ⟨F, r, g', hm, ?_⟩
  cases r with
  | ok b => exact fun ρ' H' F' s' => q b ρ' H' s' F.rok (hk ρ' H' F' s')
  | ex c => exact hk
theorem At.opt {α : Type} {o : Option α} {k : α → Rho → Hp → Prop} (h : At C W H0 ρ0 σV σ ρ g H (M.opt o g) k) : ∃ a, o = some a ∧ Fm C H0 ρ0 σ σV ρ g H ∧ ∀ ρ' H', Fm C H0 ρ0 σ σV ρ' g H' → Stp C.tb ρ H ρ' H' → k a ρ' H' := by
  obtain ⟨F, r, g', hm, hk⟩ := h
  obtain ⟨a, e, rfl, rfl⟩ := opt_some hm
  exact ⟨a, e, F, hk⟩
theorem At.pure {α : Type} {a : α} {k : α → Rho → Hp → Prop} (h : At C W H0 ρ0 σV σ ρ g H (M.pure a g) k) : Fm C H0 ρ0 σ σV ρ g H ∧ ∀ ρ' H', Fm C H0 ρ0 σ σV ρ' g H' → Stp C.tb ρ H ρ' H' → k a ρ' H' := by
  obtain ⟨b, e, F, hk⟩ := At.opt (o := some a) h
  cases e
  exact ⟨F, hk⟩
theorem At.fail {α : Type} {k : α → Rho → Hp → Prop} (h : At C W H0 ρ0 σV σ ρ g H ((M.fail : M α) g) k) : False := by
  obtain ⟨F, r, g', hm, hk⟩ := h
  cases hm
/-- a value grown from here -/
theorem fin_grow {d : D} {Q : VK} (F : Fm C H0 ρ0 σ σV ρ g H) (hk : ∀ ρ' H', Fm C H0 ρ0 σ σV ρ' g H' → Stp C.tb ρ H ρ' H' → ∀ v, Rep C ρ' H' d v → Q v H') : ∀ v H', Grow H H' → Rep C ρ H' d v → Q v H' :=
  fun v H' k r => hk ρ H' (F.grow k) (.of _ k) v r

/-! ### names, constants -/
theorem sE_var {i : Nat} {x : Str} {pos : Pos} (hN : X.N[i]? = some x) (hv : Vis X.env.scope x) (hd : (x == ("__debug__" : Str)) = false) (hcd : (x == ("__classdict__" : Str)) = false) : PE X (.Name x pos) (lift C W H0 ρ0 fun σ => slotD σ i) := by
  refine PE.imp (pe_var hN hv hd hcd) fun σV H Q h => ?_
  obtain ⟨σ, ρ, g, h⟩ := h
  obtain ⟨F, r, g', hm, hk⟩ := h
  replace hm : slotD σ i g = some (r, g') := hm
  unfold slotD at hm
  cases e : slot σ i with
  | imm d =>
    rw [e] at hm
    obtain ⟨rfl, rfl⟩ := pure_some hm
    obtain ⟨v, e1, q⟩ := F.get e
    exact ⟨v, e1, hk ρ H F (.refl _ _) v q⟩
  | _ =>
    rw [e] at hm
    cases hm
theorem sE_cst {e : Expr} {d : D} {v : V} (h : PE X e (tC v)) (r : ∀ ρ H, Rep C ρ H d v) : PE X e (lift C W H0 ρ0 fun _ => M.pure d) := by
  refine PE.imp h fun σV H Q h => ?_
  obtain ⟨σ, ρ, g, h⟩ := h
  obtain ⟨F, hk⟩ := At.pure h
  exact hk ρ H F (.refl _ _) v (r _ _)

/-! ### lists of expressions -/
theorem sA_nil : PA X [] (liftA C W H0 ρ0 fun _ => M.pure []) := by
  refine PA.imp pa_nil fun σV H Q h => ?_
  obtain ⟨σ, ρ, g, h⟩ := h
  obtain ⟨F, hk⟩ := At.pure h
  exact hk ρ H F (.refl _ _) [] rfl
theorem sA_cons {e : Expr} {es : List Expr} {m : List Sl → M D} {ms : List Sl → M (List D)} (ok : okE e = true) (h1 : PE X e (lift C W H0 ρ0 m)) (h2 : PA X es (liftA C W H0 ρ0 ms)) :
    PA X (e :: es) (liftA C W H0 ρ0 fun σ => M.bind (m σ) fun d => M.bind (ms σ) fun ds => M.pure (d :: ds)) := by
  refine PA.imp (pa_cons h1 h2 (star_of ok _ _)) fun σV H Q h => ?_
  obtain ⟨σ, ρ, g, h⟩ := h
  refine ⟨σ, ρ, g, h.bind fun d ρ1 H1 g1 s1 h1 v rv => ?_⟩
  have F1 := h1.1
  refine ⟨σ, ρ1, g1, h1.bind fun ds ρ2 H2 g2 s2 h2 vs rvs => ?_⟩
  obtain ⟨F2, hk⟩ := At.pure h2
  exact hk ρ2 H2 F2 (.refl _ _) (v :: vs) ⟨v, vs, rfl, rv.to (s2.keeps F1.rok) s2.pre, rvs⟩
theorem sE_tup {es : List Expr} {ms : List Sl → M (List D)} {k : Nat} {pos : Pos} (h : PA X es (liftA C W H0 ρ0 ms)) (len : ∀ σ g ds g', ms σ g = some (.ok ds, g') → ds.length ≤ 1000) :
    PE X (.Tuple es k pos) (lift C W H0 ρ0 fun σ => M.bind (ms σ) fun ds => M.pure (.tup ds)) := by
  refine PE.imp (pe_tup h) fun σV H Q h => ?_
  obtain ⟨σ, ρ, g, h⟩ := h
  obtain ⟨F, r, g', hm, hk⟩ := h
  rcases bind_some hm with ⟨c, h1, rfl⟩ | ⟨ds, g1, h1, h2⟩
  · exact ⟨σ, ρ, g, F, .ex c, g', h1, hk⟩
  · obtain ⟨rfl, rfl⟩ := pure_some h2
    refine ⟨σ, ρ, g, F, .ok ds, g', h1, fun ρ1 H1 F1 s1 vs rvs => ⟨?_, fun p hp => ?_⟩⟩
    · rw [rvs.len, sizeLine_eq]
      have := len σ g ds g' h1
      omega
    · exact hk ρ1 _ (F1.grow (Grow.upd hp)) (s1.trans (.of _ (Grow.upd hp))) _ ⟨p, vs, rfl, upd_same, rvs.grow (Grow.upd hp)⟩
theorem sE_lst {es : List Expr} {ms : List Sl → M (List D)} {pos : Pos} (h : PA X es (liftA C W H0 ρ0 ms)) (len : ∀ σ g ds g', ms σ g = some (.ok ds, g') → ds.length ≤ 1000) :
    PE X (.List es pos) (lift C W H0 ρ0 fun σ => M.bind (ms σ) fun ds => M.pure (.lst ds)) := by
  refine PE.imp (PE.frz (pe_lst h)) fun σV H Q h => ?_
  obtain ⟨σ, ρ, g, h⟩ := h
  obtain ⟨F, r, g', hm, hk⟩ := h
  rcases bind_some hm with ⟨c, h1, rfl⟩ | ⟨ds, g1, h1, h2⟩
  · exact ⟨σ, ρ, g, F, .ex c, g', h1, hk⟩
  · obtain ⟨rfl, rfl⟩ := pure_some h2
    refine ⟨σ, ρ, g, F, .ok ds, g', h1, fun ρ1 H1 F1 s1 vs rvs => ⟨?_, fun p hp => FzTo.new fun o => ?_⟩⟩
    · rw [rvs.len, sizeLine_eq]
      have := len σ g ds g' h1
      omega
    · exact hk ρ1 _ (F1.grow (Grow.upd hp)) (s1.trans (.of _ (Grow.upd hp))) _ ⟨p, vs, rfl, fz_at, rvs.grow (Grow.upd hp)⟩
/-! ### operators -/
theorem run_op {ma mb : List Sl → M D} {f : D → D → Option D} {Q : VK} (h : lift C W H0 ρ0 (fun σ => M.bind (ma σ) fun x => M.bind (mb σ) fun y => M.opt (f x y)) σV H Q) :
    tOp (rD2 C f) (lift C W H0 ρ0 ma) (lift C W H0 ρ0 mb) σV H Q := by
  obtain ⟨σ, ρ, g, h⟩ := h
  refine ⟨σ, ρ, g, h.bind fun x ρ1 H1 g1 s1 h1 v rv => ?_⟩
  have F1 := h1.1
  refine ⟨σ, ρ1, g1, h1.bind fun y ρ2 H2 g2 s2 h2 w rw' => ?_⟩
  obtain ⟨d, e, F2, hk⟩ := At.opt h2
  exact ⟨ρ2, x, y, d, rv.to (s2.keeps F1.rok) s2.pre, rw', e, fin_grow F2 hk⟩
theorem sE_bin {op : Operator} {f : D → D → Option D} {a b : Expr} {ma mb : List Sl → M D} {pos : Pos} (ho : OpR X (binaryOp op) (rD2 C f)) (ha : PE X a (lift C W H0 ρ0 ma)) (hb : PE X b (lift C W H0 ρ0 mb)) :
    PE X (.BinOp a op b pos) (lift C W H0 ρ0 fun σ => M.bind (ma σ) fun x => M.bind (mb σ) fun y => M.opt (f x y)) := PE.imp (pe_op ho ha hb) fun σV H Q h => run_op h
theorem sE_cmp {op : CmpOp} {f : D → D → Option D} {a b : Expr} {ma mb : List Sl → M D} {pos : Pos} (ok : okE b = true) (ho : OpR X (compareOp op) (rD2 C f)) (ha : PE X a (lift C W H0 ρ0 ma)) (hb : PE X b (lift C W H0 ρ0 mb)) :
    PE X (.Compare a [op] [b] pos) (lift C W H0 ρ0 fun σ => M.bind (ma σ) fun x => M.bind (mb σ) fun y => M.opt (f x y)) := PE.imp (pe_cmpR ho ha hb (behind_of ok op)) fun σV H Q h => run_op h
/-- a test by the value of the expression -/
def tru (m : List Sl → M D) : List Sl → M Bool := fun σ => M.bind (m σ) fun x => M.opt (truth x)
theorem sT_cmp {op : CmpOp} {f : D → D → Option D} {a b : Expr} {ma mb : List Sl → M D} {pos : Pos} (ok : okE b = true) (hf : ∀ x y d, f x y = some d → ∃ t, d = .bl t) (ho : OpR X (compareOp op) (rD2 C f)) (ha : PE X a (lift C W H0 ρ0 ma)) (hb : PE X b (lift C W H0 ρ0 mb)) :
    PT X (.Compare a [op] [b] pos) (liftT C W H0 ρ0 (tru fun σ => M.bind (ma σ) fun x => M.bind (mb σ) fun y => M.opt (f x y))) := by
  refine PT.imp (pt_cmpR ho ha hb (behind_of ok op)) fun σV H Q h => ?_
  obtain ⟨σ, ρ, g, h⟩ := h
  unfold tru at h
  rw [M.bind_assoc] at h
  refine ⟨σ, ρ, g, h.bind fun x ρ1 H1 g1 s1 h1 v rv => ?_⟩
  have F1 := h1.1
  rw [M.bind_assoc] at h1
  refine ⟨σ, ρ1, g1, h1.bind fun y ρ2 H2 g2 s2 h2 w rw' => ?_⟩
  have F2 := h2.1
  obtain ⟨F, r, g', hm, hk⟩ := h2
  rcases bind_some hm with ⟨c, h1, rfl⟩ | ⟨d, g3, h3, h4⟩
  · obtain ⟨_, _, z, _⟩ := opt_some h1
    cases z
  · obtain ⟨d', e, ed, eg⟩ := opt_some h3
    cases ed
    subst eg
    obtain ⟨b', e2, rfl, rfl⟩ := opt_some h4
    obtain ⟨t, rfl⟩ := hf _ _ _ e
    have e3 : t = b' := Option.some.inj e2
    subst e3
    exact ⟨ρ2, x, y, .bl t, rv.to (s2.keeps F1.rok) s2.pre, rw', e, fun z H' k r => ⟨t, r, hk ρ2 H' (F2.grow k) (.of _ k)⟩⟩
/-- a test of any other form -/
theorem sT_any {e : Expr} {m : List Sl → M D} (hK : X.K = C.K) (ok : plainT e = true) (h : PE X e (lift C W H0 ρ0 m)) : PT X e (liftT C W H0 ρ0 (tru m)) := by
  refine PT.imp (pt_truth h (isTrue_of ok X.env)) fun σV H Q h => ?_
  obtain ⟨σ, ρ, g, h⟩ := h
  refine ⟨σ, ρ, g, At.bind (f := fun x => M.opt (truth x)) h fun x ρ1 H1 g1 s1 h1 v rv => ?_⟩
  obtain ⟨b, e, F1, hk⟩ := At.opt h1
  exact ⟨b, by rw [hK]; exact snd_tru rv e, hk ρ1 H1 F1 (.refl _ _)⟩
theorem sE_not {e : Expr} {m : List Sl → M D} {pos : Pos} (hK : X.K = C.K) (h : PE X e (lift C W H0 ρ0 m)) : PE X (.UnaryOp .Not e pos) (lift C W H0 ρ0 fun σ => M.bind (m σ) fun x => M.bind (M.opt (truth x)) fun t => M.pure (.bl (!t))) := by
  refine PE.imp (pe_notT h) fun σV H Q h => ?_
  obtain ⟨σ, ρ, g, h⟩ := h
  refine ⟨σ, ρ, g, h.bind fun x ρ1 H1 g1 s1 h1 v rv => ?_⟩
  obtain ⟨F, r, g', hm, hk⟩ := h1
  rcases bind_some hm with ⟨c, h1, rfl⟩ | ⟨t, g3, h3, h4⟩
  · obtain ⟨_, _, z, _⟩ := opt_some h1
    cases z
  · obtain ⟨b, e, eb, eg⟩ := opt_some h3
    cases eb
    subst eg
    obtain ⟨rfl, rfl⟩ := pure_some h4
    exact ⟨t, by rw [hK]; exact snd_tru rv e, hk ρ1 H1 F (.refl _ _) _ rfl⟩
theorem sT_not {e : Expr} {m : List Sl → M D} {pos : Pos} (h : PT X e (liftT C W H0 ρ0 (tru m))) : PT X (.UnaryOp .Not e pos) (liftT C W H0 ρ0 (tru fun σ => M.bind (m σ) fun x => M.bind (M.opt (truth x)) fun t => M.pure (.bl (!t)))) := by
  refine PT.imp (pt_not h) fun σV H Q h => ?_
  obtain ⟨σ, ρ, g, F, r, g', hm, hk⟩ := h
  unfold tru at hm
  rcases bind_some hm with ⟨c, h1, rfl⟩ | ⟨d, g1, h1, h2⟩
  · rcases bind_some h1 with ⟨c', h3, z⟩ | ⟨x, g2, h3, h4⟩
    · cases z
      refine ⟨σ, ρ, g, F, .ex c, g', ?_, hk⟩
      show M.bind (m σ) _ g = _
      unfold M.bind
      rw [h3]
    · rcases bind_some h4 with ⟨c', h5, z⟩ | ⟨t, g3, h5, h6⟩
      · obtain ⟨_, _, y, _⟩ := opt_some h5
        cases y
      · obtain ⟨y, _⟩ := pure_some h6
        cases y
  · rcases bind_some h1 with ⟨c', h3, z⟩ | ⟨x, g2, h3, h4⟩
    · cases z
    · rcases bind_some h4 with ⟨c', h5, z⟩ | ⟨t, g3, h5, h6⟩
      · cases z
      · obtain ⟨y, e1⟩ := pure_some h6
        cases y
        obtain ⟨b', e2, rfl, rfl⟩ := opt_some h2
        cases (Option.some.inj e2 : (!t) = b')
        refine ⟨σ, ρ, g, F, .ok t, _, ?_, hk⟩
        show M.bind (m σ) _ g = _
        unfold M.bind
        rw [h3]
        show M.opt (truth x) g2 = _
        rw [h5, e1]
end
end MC
namespace MC
open PySem PySem.Spec L2
section
variable {C : Cn} {W : WX} {H0 : Hp} {ρ0 : Rho} {X : Cx} {σV : L2.St} {σ : List Sl} {ρ : Rho} {g : G} {H : Hp}
/-! ### chains -/
def chnM (f f' : D → D → Option D) (ma mb mc : List Sl → M D) : List Sl → M D := fun σ => M.bind (ma σ) fun x => M.bind (mb σ) fun y => M.bind (M.opt ((f x y).bind asB)) fun t => match t with
  | true => M.bind (mc σ) fun z => M.opt (f' y z)
  | false => M.pure (.bl false)
theorem chn_run {f f' : D → D → Option D} {ma mb mc : List Sl → M D} {Q : VK} (h : lift C W H0 ρ0 (chnM f f' ma mb mc) σV H Q) : tChain (rD2 C f) (rD2 C f') (lift C W H0 ρ0 ma) (lift C W H0 ρ0 mb) (lift C W H0 ρ0 mc) σV H Q := by
  obtain ⟨σ, ρ, g, h⟩ := h
  refine ⟨σ, ρ, g, h.bind fun x ρ1 H1 g1 s1 h1 v rv => ?_⟩
  have F1 := h1.1
  refine ⟨σ, ρ1, g1, h1.bind fun y ρ2 H2 g2 s2 h2 w rw' => ?_⟩
  have F2 := h2.1
  obtain ⟨F, r, g', hm, hk⟩ := h2
  rcases bind_some hm with ⟨c, h1, rfl⟩ | ⟨t, g3, h3, h4⟩
  · obtain ⟨_, _, z, _⟩ := opt_some h1
    cases z
  · obtain ⟨b', e, eb, eg⟩ := opt_some h3
    cases eb
    subst eg
    cases e1 : f x y with
    | none => rw [e1] at e; cases e
    | some d =>
      rw [e1] at e
      have e : asB d = some t := e
      have ed : d = .bl t := by
        cases d with
        | bl b => cases (Option.some.inj e : b = t); rfl
        | _ => cases e
      subst ed
      refine ⟨ρ2, x, y, _, rv.to (s2.keeps F1.rok) s2.pre, rw', e1, fun z H3 k r3 => ⟨t, r3, ?_⟩⟩
      cases t with
      | false =>
        obtain ⟨rfl, rfl⟩ := pure_some h4
        exact hk ρ2 H3 (F2.grow k) (.of _ k) _ rfl
      | true =>
        refine ⟨σ, ρ2, g3, At.bind (f := fun z => M.opt (f' y z)) (m := mc σ) (k := fun d ρ' H' => ∀ v, Rep C ρ' H' d v → Q v H') ⟨F2.grow k, r, g', h4, ?_⟩ fun z ρ4 H4 g4 s4 h4 u ru => ?_⟩
        · cases r with
          | ok b => exact fun ρ' H' F' s' => hk ρ' H' F' ((Stp.of _ k).trans s')
          | ex c => exact hk
        · obtain ⟨d, e, F4, hk4⟩ := At.opt h4
          exact ⟨ρ4, y, z, d, (rw'.grow k).to (s4.keeps (F2.grow k).rok) s4.pre, ru, e, fin_grow F4 hk4⟩
theorem sE_chn {op op' : CmpOp} {f f' : D → D → Option D} {a b c : Expr} {ma mb mc : List Sl → M D} {pos : Pos} (ok : okE c = true) (ho : OpR X (compareOp op) (rD2 C f)) (ho' : OpR X (compareOp op') (rD2 C f'))
    (ha : PE X a (lift C W H0 ρ0 ma)) (hb : PE X b (lift C W H0 ρ0 mb)) (hc : PE X c (lift C W H0 ρ0 mc)) : PE X (.Compare a [op, op'] [b, c] pos) (lift C W H0 ρ0 (chnM f f' ma mb mc)) :=
  PE.imp (pe_chain ho ho' ha hb hc (last_of ok)) fun σV H Q h => chn_run h
theorem lift_tru {m : List Sl → M D} {Q : Bool → Hp → Prop} (hf : ∀ σ g d g', m σ g = some (.ok d, g') → ∃ t, d = .bl t) (h : liftT C W H0 ρ0 (tru m) σV H Q) : lift C W H0 ρ0 m σV H (fun v H' => ∃ k, v = .bl k ∧ Q k H') := by
  obtain ⟨σ, ρ, g, h⟩ := h
  obtain ⟨F, r, g', hm, hk⟩ := h
  unfold tru at hm
  rcases bind_some hm with ⟨c, h1, rfl⟩ | ⟨x, g1, h1, h2⟩
  · exact ⟨σ, ρ, g, F, .ex c, g', h1, hk⟩
  · obtain ⟨t, rfl⟩ := hf σ g x g1 h1
    obtain ⟨b, e, rfl, rfl⟩ := opt_some h2
    have e : t = b := Option.some.inj e
    subst e
    exact ⟨σ, ρ, g, F, .ok (.bl t), _, h1, fun ρ' H' F' s' v rv => ⟨t, rv, hk ρ' H' F' s'⟩⟩
theorem chn_bl {f f' : D → D → Option D} (hf' : ∀ x y d, f' x y = some d → ∃ t, d = .bl t) {ma mb mc : List Sl → M D} : ∀ σ g d g', chnM f f' ma mb mc σ g = some (.ok d, g') → ∃ t, d = .bl t := fun σ g d g' h => by
  unfold chnM at h
  rcases bind_some h with ⟨c, _, z⟩ | ⟨x, g1, h1, h2⟩
  · cases z
  · rcases bind_some h2 with ⟨c, _, z⟩ | ⟨y, g2, h3, h4⟩
    · cases z
    · rcases bind_some h4 with ⟨c, _, z⟩ | ⟨t, g3, h5, h6⟩
      · cases z
      · cases t with
        | false =>
          obtain ⟨e, _⟩ := pure_some h6
          cases e
          exact ⟨_, rfl⟩
        | true =>
          rcases bind_some h6 with ⟨c, _, z⟩ | ⟨z, g4, h7, h8⟩
          · cases z
          · obtain ⟨_, e, ed, _⟩ := opt_some h8
            cases ed
            exact hf' _ _ _ e
theorem sT_chn {op op' : CmpOp} {f f' : D → D → Option D} {a b c : Expr} {ma mb mc : List Sl → M D} {pos : Pos} (ok : okE c = true) (hf' : ∀ x y d, f' x y = some d → ∃ t, d = .bl t) (ho : OpR X (compareOp op) (rD2 C f)) (ho' : OpR X (compareOp op') (rD2 C f'))
    (ha : PE X a (lift C W H0 ρ0 ma)) (hb : PE X b (lift C W H0 ρ0 mb)) (hc : PE X c (lift C W H0 ρ0 mc)) : PT X (.Compare a [op, op'] [b, c] pos) (liftT C W H0 ρ0 (tru (chnM f f' ma mb mc))) :=
  PT.imp (pt_chain ho ho' ha hb hc (last_of ok)) fun σV H Q h => chn_run (lift_tru (chn_bl hf') h)
/-! ### and, or -/
def andM (ma mr : List Sl → M D) : List Sl → M D := fun σ => M.bind (ma σ) fun x => M.bind (M.opt (truth x)) fun t => match t with
  | true => mr σ
  | false => M.pure x
def orM (ma mr : List Sl → M D) : List Sl → M D := fun σ => M.bind (ma σ) fun x => M.bind (M.opt (truth x)) fun t => match t with
  | true => M.pure x
  | false => mr σ
theorem sE_and {a b : Expr} {rest : List Expr} {ma mr : List Sl → M D} {pos : Pos} (hK : X.K = C.K) (ha : PE X a (lift C W H0 ρ0 ma)) (hb : PE X (.BoolOp .And (b :: rest) pos) (lift C W H0 ρ0 mr)) :
    PE X (.BoolOp .And (a :: b :: rest) pos) (lift C W H0 ρ0 (andM ma mr)) := by
  refine PE.imp (pe_andT ha hb) fun σV H Q h => ?_
  obtain ⟨σ, ρ, g, h⟩ := h
  refine ⟨σ, ρ, g, At.bind h fun x ρ1 H1 g1 s1 h1 v rv => ?_⟩
  obtain ⟨F, r, g', hm, hk⟩ := h1
  rcases bind_some hm with ⟨c, h1, rfl⟩ | ⟨t, g3, h3, h4⟩
  · obtain ⟨_, _, z, _⟩ := opt_some h1
    cases z
  · obtain ⟨b', e, eb, eg⟩ := opt_some h3
    cases eb
    subst eg
    refine ⟨t, by rw [hK]; exact snd_tru rv e, ?_⟩
    cases t with
    | true => exact ⟨σ, ρ1, g3, F, r, g', h4, hk⟩
    | false =>
      obtain ⟨rfl, rfl⟩ := pure_some h4
      exact hk ρ1 H1 F (.refl _ _) v rv
theorem sE_or {a b : Expr} {rest : List Expr} {ma mr : List Sl → M D} {pos : Pos} (hK : X.K = C.K) (ha : PE X a (lift C W H0 ρ0 ma)) (hb : PE X (.BoolOp .Or (b :: rest) pos) (lift C W H0 ρ0 mr)) :
    PE X (.BoolOp .Or (a :: b :: rest) pos) (lift C W H0 ρ0 (orM ma mr)) := by
  refine PE.imp (pe_orT ha hb) fun σV H Q h => ?_
  obtain ⟨σ, ρ, g, h⟩ := h
  refine ⟨σ, ρ, g, At.bind h fun x ρ1 H1 g1 s1 h1 v rv => ?_⟩
  obtain ⟨F, r, g', hm, hk⟩ := h1
  rcases bind_some hm with ⟨c, h1, rfl⟩ | ⟨t, g3, h3, h4⟩
  · obtain ⟨_, _, z, _⟩ := opt_some h1
    cases z
  · obtain ⟨b', e, eb, eg⟩ := opt_some h3
    cases eb
    subst eg
    refine ⟨t, by rw [hK]; exact snd_tru rv e, ?_⟩
    cases t with
    | false => exact ⟨σ, ρ1, g3, F, r, g', h4, hk⟩
    | true =>
      obtain ⟨rfl, rfl⟩ := pure_some h4
      exact hk ρ1 H1 F (.refl _ _) v rv
theorem truth_again {x : D} {t : Bool} (h : truth x = some t) (g : G) : M.opt (truth x) g = some (.ok t, g) := by rw [h]; rfl
theorem tru_and (ma mr : List Sl → M D) (σ : List Sl) : tru (andM ma mr) σ = M.bind (tru ma σ) fun t => match t with
    | true => tru mr σ
    | false => M.pure false := by
  funext g
  unfold tru andM M.bind
  dsimp only
  cases ma σ g with
  | none => rfl
  | some p =>
    obtain ⟨r, g1⟩ := p
    cases r with
    | ex c => rfl
    | ok x =>
      dsimp only
      cases e : truth x with
      | none => rfl
      | some t =>
        cases t with
        | true => rfl
        | false =>
          show M.opt (truth x) g1 = _
          rw [e]
          rfl
theorem tru_or (ma mr : List Sl → M D) (σ : List Sl) : tru (orM ma mr) σ = M.bind (tru ma σ) fun t => match t with
    | true => M.pure true
    | false => tru mr σ := by
  funext g
  unfold tru orM M.bind
  dsimp only
  cases ma σ g with
  | none => rfl
  | some p =>
    obtain ⟨r, g1⟩ := p
    cases r with
    | ex c => rfl
    | ok x =>
      dsimp only
      cases e : truth x with
      | none => rfl
      | some t =>
        cases t with
        | false => rfl
        | true =>
          show M.opt (truth x) g1 = _
          rw [e]
          rfl
theorem PW.imp {e : Expr} {t t' : TT} (h : PW X e t) (k : ∀ σ H Q, t' σ H Q → t σ H Q) : PW X e t' := ⟨fun wh pins s σ H Q I hw => h.run wh pins s σ H Q I (k _ _ _ hw)⟩
theorem sW_and {a b : Expr} {rest : List Expr} {ma mr : List Sl → M D} {pos : Pos} (ha : PT X a (liftT C W H0 ρ0 (tru ma))) (hb : PW X (.BoolOp .And (b :: rest) pos) (liftT C W H0 ρ0 (tru mr))) :
    PW X (.BoolOp .And (a :: b :: rest) pos) (liftT C W H0 ρ0 (tru (andM ma mr))) := by
  refine PW.imp (pw_and ha hb) fun σV H Q h => ?_
  obtain ⟨σ, ρ, g, h⟩ := h
  rw [tru_and] at h
  refine ⟨σ, ρ, g, At.bind h fun t ρ1 H1 g1 s1 h1 => ?_⟩
  cases t with
  | true => exact ⟨σ, ρ1, g1, h1⟩
  | false =>
    obtain ⟨F, hk⟩ := At.pure h1
    exact hk ρ1 H1 F (.refl _ _)
theorem sW_or {a b : Expr} {rest : List Expr} {ma mr : List Sl → M D} {pos : Pos} (ha : PT X a (liftT C W H0 ρ0 (tru ma))) (hb : PW X (.BoolOp .Or (b :: rest) pos) (liftT C W H0 ρ0 (tru mr))) :
    PW X (.BoolOp .Or (a :: b :: rest) pos) (liftT C W H0 ρ0 (tru (orM ma mr))) := by
  refine PW.imp (pw_or ha hb) fun σV H Q h => ?_
  obtain ⟨σ, ρ, g, h⟩ := h
  rw [tru_or] at h
  refine ⟨σ, ρ, g, At.bind h fun t ρ1 H1 g1 s1 h1 => ?_⟩
  cases t with
  | false => exact ⟨σ, ρ1, g1, h1⟩
  | true =>
    obtain ⟨F, hk⟩ := At.pure h1
    exact hk ρ1 H1 F (.refl _ _)
/-! ### -e, a if c else b -/
theorem sE_neg {e : Expr} {m : List Sl → M D} {pos : Pos} (h : PE X e (lift C W H0 ρ0 m)) : PE X (.UnaryOp .USub e pos) (lift C W H0 ρ0 fun σ => M.bind (m σ) fun x => match x with
    | .int i => M.pure (.int (-i))
    | _ => M.fail) := by
  refine PE.imp (pe_un un_neg h) fun σV H Q h => ?_
  obtain ⟨σ, ρ, g, h⟩ := h
  refine ⟨σ, ρ, g, At.bind h fun x ρ1 H1 g1 s1 h1 v rv => ?_⟩
  cases x with
  | int i =>
    obtain ⟨F, hk⟩ := At.pure h1
    exact ⟨i, rv, hk ρ1 H1 F (.refl _ _) _ rfl⟩
  | _ => exact (At.fail h1).elim
def ifeM (mc ma mb : List Sl → M D) : List Sl → M D := fun σ => M.bind (mc σ) fun x => M.bind (M.opt (truth x)) fun t => match t with
  | true => ma σ
  | false => mb σ
theorem sE_ife {c a b : Expr} {mc ma mb : List Sl → M D} {pos : Pos} (hc : PT X c (liftT C W H0 ρ0 (tru mc))) (ha : PE X a (lift C W H0 ρ0 ma)) (hb : PE X b (lift C W H0 ρ0 mb)) : PE X (.IfExp c a b pos) (lift C W H0 ρ0 (ifeM mc ma mb)) := by
  refine PE.imp (pe_ifExp hc ha hb) fun σV H Q h => ?_
  obtain ⟨σ, ρ, g, h⟩ := h
  unfold ifeM at h
  rw [← M.bind_assoc] at h
  refine ⟨σ, ρ, g, At.bind h fun t ρ1 H1 g1 s1 h1 => ?_⟩
  cases t with
  | true => exact ⟨σ, ρ1, g1, h1⟩
  | false => exact ⟨σ, ρ1, g1, h1⟩
/-! ### subscripts -/
theorem sE_idx (hu : X.A.units + 1 < cLine) {a b : Expr} {ma mb : List Sl → M D} {pos : Pos} (hK : X.K = C.K) (ok : okE b = true) (ha : PE X a (lift C W H0 ρ0 ma)) (hb : PE X b (lift C W H0 ρ0 mb)) :
    PE X (.Subscript a b pos) (lift C W H0 ρ0 fun σ => M.bind (ma σ) fun x => M.bind (mb σ) fun y => M.opt (ixOf x y)) := PE.imp (pe_ix (snd_ix hK hu) ha hb (plainIx_of ok)) fun σV H Q h => run_op h
theorem sO_none : PO X none (liftO C W H0 ρ0 fun _ => M.pure none) := by
  refine ⟨fun pins s σV H Q I h => po_none.run pins s σV H Q I ?_⟩
  obtain ⟨σ, ρ, g, h⟩ := h
  obtain ⟨F, hk⟩ := At.pure h
  exact hk ρ H F (.refl _ _)
theorem sO_some {e : Expr} {m : List Sl → M D} (h : PE X e (lift C W H0 ρ0 m)) : PO X (some e) (liftO C W H0 ρ0 fun σ => M.bind (m σ) fun x => match x with
    | .int i => M.pure (some i)
    | _ => M.fail) := by
  refine ⟨fun pins s σV H Q I q => (po_some h).run pins s σV H Q I ?_⟩
  obtain ⟨σ, ρ, g, q⟩ := q
  refine ⟨σ, ρ, g, At.bind q fun x ρ1 H1 g1 s1 h1 v rv => ?_⟩
  cases x with
  | int i =>
    obtain ⟨F, hk⟩ := At.pure h1
    exact ⟨i, rv, hk ρ1 H1 F (.refl _ _)⟩
  | _ => exact (At.fail h1).elim
theorem sE_slc {a : Expr} {lo hi : Option Expr} {ma : List Sl → M D} {ml mh : List Sl → M (Option Int)} {pos p2 : Pos} (hK : X.K = C.K) (ha : PE X a (lift C W H0 ρ0 ma)) (hl : PO X lo (liftO C W H0 ρ0 ml)) (hh : PO X hi (liftO C W H0 ρ0 mh)) :
    PE X (.Subscript a (.Slice lo hi none p2) pos) (lift C W H0 ρ0 fun σ => M.bind (ma σ) fun x => M.bind (ml σ) fun l => M.bind (mh σ) fun h => M.opt (slOf x l h)) := by
  refine PE.imp (pe_slice (snd_sl hK) ha hl hh) fun σV H Q h => ?_
  obtain ⟨σ, ρ, g, h⟩ := h
  refine ⟨σ, ρ, g, At.bind h fun x ρ1 H1 g1 s1 h1 v rv => ?_⟩
  have F1 := h1.1
  refine ⟨σ, ρ1, g1, At.bind h1 fun l ρ2 H2 g2 s2 h2 => ?_⟩
  have F2 := h2.1
  refine ⟨σ, ρ2, g2, At.bind h2 fun u ρ3 H3 g3 s3 h3 => ?_⟩
  obtain ⟨d, e, F3, hk⟩ := At.opt h3
  exact ⟨ρ3, x, d, (rv.to (s2.keeps F1.rok) s2.pre).to (s3.keeps F2.rok) s3.pre, e, fin_grow F3 hk⟩
/-! ### built-ins -/
theorem sE_prim {f : List D → Option D} {x : Str} {e : Expr} {es : List Expr} {ms : List Sl → M (List D)} {id : String} {p pos : Pos} (ok : (e :: es).all okE = true) (hc : CallR X (.builtin id) (rDL C f)) (hg : Gl X x) (hm : X.mg x = none) (hv : bootBuiltins x = some (.builtin id))
    (hn : x ≠ "__name__") (hdb : (x == ("__debug__" : Str)) = false) (ha : PA X (e :: es) (liftA C W H0 ρ0 ms)) : PE X (.Call (.Name x p) (e :: es) [] pos) (lift C W H0 ρ0 fun σ => M.bind (ms σ) fun ds => M.opt (f ds)) := by
  obtain ⟨o1, o2⟩ := Bool.and_eq_true_iff.mp (show (okE e && es.all okE) = true from ok)
  refine PE.imp (pe_callB hc hg hm hv ha hn hdb (star_of o1 _ _) (stars_of o2 _ _)) fun σV H Q h => ?_
  obtain ⟨σ, ρ, g, h⟩ := h
  refine ⟨σ, ρ, g, At.bind h fun ds ρ1 H1 g1 s1 h1 vs rv => ?_⟩
  obtain ⟨d, e, F1, hk⟩ := At.opt h1
  exact ⟨ρ1, ds, d, rv, e, fin_grow F1 hk⟩
theorem sE_primT {f : List D → Option D} {x : Str} {e : Expr} {es : List Expr} {ms : List Sl → M (List D)} {id : String} {p pos : Pos} (ok : (e :: es).all okE = true) (hc : CallR X (.type id) (rDL C f)) (hg : Gl X x) (hm : X.mg x = none) (hv : bootBuiltins x = some (.type id))
    (hn : x ≠ "__name__") (hdb : (x == ("__debug__" : Str)) = false) (ha : PA X (e :: es) (liftA C W H0 ρ0 ms)) : PE X (.Call (.Name x p) (e :: es) [] pos) (lift C W H0 ρ0 fun σ => M.bind (ms σ) fun ds => M.opt (f ds)) := by
  obtain ⟨o1, o2⟩ := Bool.and_eq_true_iff.mp (show (okE e && es.all okE) = true from ok)
  refine PE.imp (pe_callTy hc hg hm hv ha hn hdb (star_of o1 _ _) (stars_of o2 _ _)) fun σV H Q h => ?_
  obtain ⟨σ, ρ, g, h⟩ := h
  refine ⟨σ, ρ, g, At.bind h fun ds ρ1 H1 g1 s1 h1 vs rv => ?_⟩
  obtain ⟨d, e, F1, hk⟩ := At.opt h1
  exact ⟨ρ1, ds, d, rv, e, fin_grow F1 hk⟩
theorem sE_isi {e : Expr} {m : List Sl → M D} {t : Ty} {x : Str} {p pos p2 : Pos} (hK : X.K = C.K) (ok : okE e = true) (hg : Gl X "isinstance") (hm : X.mg "isinstance" = none) (hgx : Gl X x) (hmx : X.mg x = none) (hvx : bootBuiltins x = some (.type (tyName t)))
    (hnx : x ≠ "__name__") (hdx : (x == ("__debug__" : Str)) = false) (h : PE X e (lift C W H0 ρ0 m)) : PE X (.Call (.Name "isinstance" p) [e, .Name x p2] [] pos) (lift C W H0 ρ0 fun σ => M.bind (m σ) fun d => M.opt ((isTy d t).map .bl)) := by
  refine PE.imp (pe_callB (snd_isi hK t) hg hm (by decide +kernel) (pa_cons h (pa_cons (pe_bltn (v := .ty (tyName t)) hgx hmx hvx rfl hnx hdx) pa_nil) (star_of ok _ _)) (by decide) (by decide) (star_of ok _ _) rfl) fun σV H Q h => ?_
  obtain ⟨σ, ρ, g, h⟩ := h
  refine ⟨σ, ρ, g, At.bind h fun d ρ1 H1 g1 s1 h1 v rv => ?_⟩
  obtain ⟨b, e, F1, hk⟩ := At.opt h1
  obtain ⟨b', e', rfl⟩ := Option.map_eq_some_iff.mp e
  exact ⟨ρ1, d, v, b', rfl, rv, e', hk ρ1 H1 F1 (.refl _ _) _ rfl⟩
end
end MC
namespace MC
open PySem PySem.Spec L2
section
variable {C : Cn} {W : WX} {H0 : Hp} {ρ0 : Rho} {X : Cx} {σV : L2.St} {σ : List Sl} {ρ : Rho} {g : G} {H : Hp}
/-! ### d.get -/
theorem m1_of {o e : Expr} {m : Str} {pa pc : Pos} (hb : baseB o = true) (ok : okE e = true) (hl : (pa.endLine == pc.line) = true) : M1 X o m pa e pc :=
  ⟨base_ofB hb _ _ _, by rw [star_of ok]; rfl, hl, by rw [star_of ok]; rfl⟩
theorem m2_of {o e f : Expr} {m : Str} {pa pc : Pos} (hb : baseB o = true) (ok : okE e = true) (ok2 : okE f = true) (hl : (pa.endLine == pc.line) = true) : M2 X o m pa e f pc :=
  ⟨base_ofB hb _ _ _, by rw [star_of ok, star_of ok2]; rfl, hl, by rw [star_of ok, star_of ok2]; rfl⟩
theorem getDc_some {x y z d : D} (h : getDc x y z = some d) : ∃ t ks vs o, x = .dct t ks vs ∧ dLook t ks vs y = some o ∧ d = o.getD z := by
  cases x with
  | dct t ks vs =>
    obtain ⟨o, e, rfl⟩ := Option.map_eq_some_iff.mp (show (dLook t ks vs y).map (fun o => o.getD z) = some d from h)
    exact ⟨t, ks, vs, o, rfl, e, rfl⟩
  | _ => cases h
theorem fnd_getD {o : Option D} {r : Option V} {z : D} {w : V} (f : Fnd C ρ H o r) (rz : Rep C ρ H z w) : Rep C ρ H (o.getD z) (r.getD w) := by
  cases o with
  | none => rw [show r = none from f]; exact rz
  | some d =>
    obtain ⟨v, rfl, rv⟩ := f
    exact rv
theorem dct_opt {x : D} {g g' : G} {r : R Unit} (h : M.opt (dctOk x) g = some (r, g')) : (∃ t ks vs, x = .dct t ks vs) ∧ r = .ok () ∧ g' = g := by
  obtain ⟨u, e, rfl, rfl⟩ := opt_some h
  cases x with
  | dct t ks vs => exact ⟨⟨t, ks, vs, rfl⟩, rfl, rfl⟩
  | _ => cases e
theorem sE_get {a b : Expr} {ma mb : List Sl → M D} {pa pc : Pos} (hu : X.A.units + 1 < cLine) (hb' : baseB a = true) (ok : okE b = true) (hl : (pa.endLine == pc.line) = true) (ha : PE X a (lift C W H0 ρ0 ma)) (hb : PE X b (lift C W H0 ρ0 mb)) :
    PE X (.Call (.Attribute a "get" pa) [b] [] pc) (lift C W H0 ρ0 fun σ => M.bind (ma σ) fun x => M.bind (M.opt (dctOk x)) fun _ => M.bind (mb σ) fun y => M.opt (getDc x y .non)) := by
  refine PE.imp (pe_dget1 hu ha hb (m1_of hb' ok hl)) fun σV H Q h => ?_
  obtain ⟨σ, ρ, g, Fr, r, g', hm, hq⟩ := h
  rcases bind_some hm with ⟨c, h1, rfl⟩ | ⟨x, g1, h1, h2⟩
  · exact ⟨σ, ρ, g, Fr, .ex c, g', h1, hq⟩
  refine ⟨σ, ρ, g, Fr, .ok x, g1, h1, fun ρ1 H1 F1 s1 v rv => ?_⟩
  rcases bind_some h2 with ⟨c, h3, _⟩ | ⟨_, g2, h3, h4⟩
  · obtain ⟨_, z, _⟩ := dct_opt h3
    cases z
  obtain ⟨⟨t, ks, vs, rfl⟩, _, eg⟩ := dct_opt h3
  subst eg
  obtain ⟨p, ob, u, rfl, q, dc⟩ := rep_dct rv
  refine ⟨p, rfl, dc.isD (.inr ⟨ob, q⟩), ?_⟩
  rcases bind_some h4 with ⟨c, h5, rfl⟩ | ⟨y, g3, h5, h6⟩
  · exact ⟨σ, ρ1, g2, F1, .ex c, g', h5, hq⟩
  obtain ⟨d, e, ez, eg⟩ := opt_some h6
  subst ez eg
  obtain ⟨_, _, _, o, e0, e1, rfl⟩ := getDc_some e
  cases e0
  refine ⟨σ, ρ1, g2, F1, .ok y, _, h5, fun ρ2 H2 F2 s2 w rw' => ?_⟩
  have kp : Keeps C.K H1 H2 := s2.keeps F1.rok
  obtain ⟨r', g', f⟩ := look_get (.inr ⟨ob, kp.frz _ _ _ q⟩) (dc.to kp s2.pre) rw' e1
  exact ⟨r', g', hq ρ2 H2 F2 (s1.trans s2) _ (fnd_getD f rfl)⟩
theorem sE_get3 {a b c : Expr} {ma mb mc : List Sl → M D} {pa pc : Pos} (hu : X.A.units + 1 < cLine) (hb' : baseB a = true) (ok : okE b = true) (ok2 : okE c = true) (hl : (pa.endLine == pc.line) = true) (ha : PE X a (lift C W H0 ρ0 ma)) (hb : PE X b (lift C W H0 ρ0 mb)) (hc : PE X c (lift C W H0 ρ0 mc)) :
    PE X (.Call (.Attribute a "get" pa) [b, c] [] pc) (lift C W H0 ρ0 fun σ => M.bind (ma σ) fun x => M.bind (M.opt (dctOk x)) fun _ => M.bind (mb σ) fun y => M.bind (mc σ) fun z => M.opt (getDc x y z)) := by
  refine PE.imp (pe_dget2 hu ha hb hc (m2_of hb' ok ok2 hl)) fun σV H Q h => ?_
  obtain ⟨σ, ρ, g, Fr, r, g', hm, hq⟩ := h
  rcases bind_some hm with ⟨c, h1, rfl⟩ | ⟨x, g1, h1, h2⟩
  · exact ⟨σ, ρ, g, Fr, .ex c, g', h1, hq⟩
  refine ⟨σ, ρ, g, Fr, .ok x, g1, h1, fun ρ1 H1 F1 s1 v rv => ?_⟩
  rcases bind_some h2 with ⟨c, h3, _⟩ | ⟨_, g2, h3, h4⟩
  · obtain ⟨_, z, _⟩ := dct_opt h3
    cases z
  obtain ⟨⟨t, ks, vs, rfl⟩, _, eg⟩ := dct_opt h3
  subst eg
  obtain ⟨p, ob, u, rfl, q, dc⟩ := rep_dct rv
  refine ⟨p, rfl, dc.isD (.inr ⟨ob, q⟩), ?_⟩
  rcases bind_some h4 with ⟨c, h5, rfl⟩ | ⟨y, g3, h5, h6⟩
  · exact ⟨σ, ρ1, g2, F1, .ex c, g', h5, hq⟩
  refine ⟨σ, ρ1, g2, F1, .ok y, _, h5, fun ρ2 H2 F2 s2 w rw' => ?_⟩
  rcases bind_some h6 with ⟨c, h7, rfl⟩ | ⟨z, g4, h7, h8⟩
  · exact ⟨σ, ρ2, g3, F2, .ex c, g', h7, hq⟩
  obtain ⟨d, e, ez, eg⟩ := opt_some h8
  subst ez eg
  obtain ⟨_, _, _, o, e0, e1, rfl⟩ := getDc_some e
  cases e0
  refine ⟨σ, ρ2, g3, F2, .ok z, _, h7, fun ρ3 H3 F3 s3 w3 rw3 => ?_⟩
  have kp : Keeps C.K H1 H3 := (s2.keeps F1.rok).trans (s3.keeps F2.rok)
  obtain ⟨r', g', f⟩ := look_get (.inr ⟨ob, kp.frz _ _ _ q⟩) (dc.to kp (s2.pre.trans s3.pre)) (rw'.to (s3.keeps F2.rok) s3.pre) e1
  exact ⟨r', g', hq ρ3 H3 F3 ((s1.trans s2).trans s3) _ (fnd_getD f rw3)⟩
/-! ### fields of an instance that stands still -/
theorem fieldAt_rep {f : Str} : ∀ {fvs : List (Str × V)} {ds : List D} {d : D}, fieldAt f (fvs.map (·.1)) ds = some d → Reps C ρ H ds (fvs.map (·.2)) → ∃ v, fvs.lookup f = some v ∧ Rep C ρ H d v
  | [], ds, d, e, _ => by cases ds <;> cases e
  | p :: fvs, [], d, e, _ => by cases e
  | p :: fvs, x :: ds, d, e, h => by
    obtain ⟨v, r, ev, h1, h2⟩ := h
    cases ev
    have e : (if p.1 = f then some x else fieldAt f (fvs.map (·.1)) ds) = some d := e
    rw [List.lookup_cons]
    by_cases q : p.1 = f
    · rw [if_pos q] at e
      cases e
      have : (f == p.1) = true := by rw [q]; simp
      rw [this]
      exact ⟨_, rfl, h1⟩
    · rw [if_neg q] at e
      have : (f == p.1) = false := by
        rw [beq_eq_false_iff_ne]
        exact fun z => q z.symm
      rw [this]
      exact fieldAt_rep e h2
theorem sE_fld {a : Expr} {ma : List Sl → M D} {c f : Str} {pos : Pos} (hK : X.K = C.K) (hc : Cls C.K (He.ga C.K c)) (hn : NoAttr C.K (He.ga C.K c) f) (hb' : baseB a = true) (ha : PE X a (lift C W H0 ρ0 ma)) :
    PE X (.Attribute a f pos) (lift C W H0 ρ0 fun σ => M.bind (ma σ) fun x => M.opt (fldOf c f x)) := by
  refine PE.imp (pe_fld ha (base_ofB hb' _ _ _)) fun σV H Q h => ?_
  obtain ⟨σ, ρ, g, h⟩ := h
  refine ⟨σ, ρ, g, h.bind fun x ρ1 H1 g1 s1 h1 v rv => ?_⟩
  obtain ⟨d, e, F1, hk⟩ := At.opt h1
  cases x with
  | ins c' fs ds =>
    have e' : (if c' = c then fieldAt f fs ds else none) = some d := e
    clear e
    split at e'
    · rename_i ec
      subst ec
      obtain ⟨x, dx, fvs, rfl, q, rfl, r⟩ := rv
      obtain ⟨w, e1, e2⟩ := fieldAt_rep e' r
      rw [hK]
      exact ⟨x, _, dx, fvs, w, rfl, q, hc, hn, e1, hk ρ1 H1 F1 (.refl _ _) w e2⟩
    · cases e'
  | _ => cases e
end
end MC
namespace MC
open PySem PySem.Spec L2
/-! ### isinstance(e, c), e an error that was caught -/
def rIsX (K : PySem.W.Frag) : List V → Hp → VK → Prop := fun xs H Q => ∃ (a D : Addr) (oe : Obj) (o : HO) (fs : Array Value) (c : V) (cv : Value) (b : Bool), xs = [.ref a, c] ∧ H a = some (.frz oe o) ∧ Zc (.ref D) none oe ∧ oe.data = .fields fs ∧ ExcC K D ∧ (∀ u, RelV c u → u = cv) ∧
  PySem.W.kitOne K (.ref D) cv = some b ∧ Q (.bl b) H
theorem call_isX {X : Cx} : CallR X (.builtin "isinstance") (rIsX X.K) := by
  intro pins s σ H xs us Q I r h
  obtain ⟨a, D, oe, o, fs, c, cv, b, rfl, ha, hz, hf, hE, hcv, e, q⟩ := h
  obtain ⟨hget, _⟩ := I.hok a _ ha
  match us, r with
  | [_, _], .cons rx (.cons rt .nil) =>
    cases rx
    cases hcv _ rt
    have J : PySem.W.InstAt s.heap a oe D none := by
      obtain ⟨oc, od, oda, osl⟩ := oe
      obtain ⟨z1, z2⟩ := hz
      dsimp only at z1 z2 hf
      subst z1 z2 hf
      exact ⟨hget, rfl, rfl, trivial⟩
    have kx := PySem.W.handS_kitx_exc (x := a) (ox := oe) hE.hg hE.hk hE.hs hE.hd hE.ha hE.hn hE.ht hE.hm
    exact PySem.W.kia_one kx I.kIn J e (fun z => nomatch z) fun tk => ⟨.bl b, H, I.kept (t' := tk) fun _ _ z => z, rfl, q⟩
/-- what is known of the class c: the errors of ds are its instances -/
def XisOk (K : PySem.W.Frag) (mg : Str → Option Value) (c : Str) (ds : List Str) : Prop := ∃ (v : V) (cv : Value), RelV v cv ∧ (∀ u, RelV v u → u = cv) ∧ (mg c = some cv ∨ (mg c = none ∧ bootBuiltins c = some cv)) ∧
  ∀ d n, xnm.lookup d = some n → ExcC K (He.ga K d) ∧ PySem.W.kitOne K (.ref (He.ga K d)) cv = some (ds.contains d)
section
variable {C : Cn} {W : WX} {H0 : Hp} {ρ0 : Rho} {X : Cx} {σV : L2.St} {σ : List Sl} {ρ ρ' : Rho} {g g' : G} {H H' : Hp}
theorem sE_isx {e : Expr} {m : List Sl → M D} {c : Str} {ds : List Str} {p pos p2 : Pos} (hK : X.K = C.K) (ok : okE e = true) (hg : Gl X "isinstance") (hm : X.mg "isinstance" = none) (hgx : Gl X c) (hx : XisOk C.K X.mg c ds) (hnx : c ≠ "__name__") (hdx : (c == ("__debug__" : Str)) = false) (h : PE X e (lift C W H0 ρ0 m)) :
    PE X (.Call (.Name "isinstance" p) [e, .Name c p2] [] pos) (lift C W H0 ρ0 fun σ => M.bind (m σ) fun d => M.opt (isxD ds d)) := by
  obtain ⟨v, cv, rv, un, mc, all⟩ := hx
  have hc : PE X (.Name c p2) (tC v) := by
    rcases mc with q | ⟨q1, q2⟩
    · exact pe_glob hgx q rv hdx
    · exact pe_bltn hgx q1 q2 rv hnx hdx
  refine PE.imp (pe_callB call_isX hg hm (by decide +kernel) (pa_cons h (pa_cons hc pa_nil) (star_of ok _ _)) (by decide) (by decide) (star_of ok _ _) rfl) fun σV H Q h => ?_
  obtain ⟨σ, ρ, g, h⟩ := h
  refine ⟨σ, ρ, g, At.bind h fun d ρ1 H1 g1 s1 h1 w rw' => ?_⟩
  obtain ⟨b, e, F1, hk⟩ := At.opt h1
  cases d with
  | exc d =>
    have e' : (if (xnm.lookup d).isSome then some (D.bl (ds.contains d)) else none) = some b := e
    split at e'
    · rename_i hs
      cases e'
      obtain ⟨n, hn⟩ := Option.isSome_iff_exists.mp hs
      obtain ⟨q1, q2⟩ := all d n hn
      obtain ⟨a, oe, o, fs, rfl, ha, hz, hf⟩ := rw'
      rw [hK]
      exact ⟨a, _, oe, o, fs, v, cv, _, rfl, ha, hz, hf, q1, un, q2, hk ρ1 H1 F1 (.refl _ _) _ rfl⟩
    · cases e'
  | _ => cases e
end
end MC
namespace MC
open PySem PySem.Spec L2
/-! ### calls of defs -/
/-- a def's promise, by what it gives over values -/
def spM (C : Cn) (n : Nat) (F : List D → M D) : Sp := fun vs H Q E => vs.length = n ∧ ∃ ρ g ds, Sto C.tb ρ g H ∧ Reps C ρ H ds vs ∧ ∃ r g', F ds g = some (r, g') ∧ match r with
  | .ok d => ∀ v ρ' H', Stp C.tb ρ H ρ' H' → Sto C.tb ρ' g' H' → Rep C ρ' H' d v → Q v H'
  | .ex c => ∀ ρ' H', Stp C.tb ρ H ρ' H' → Sto C.tb ρ' g' H' → E (.ref (He.ga C.K c)) none H'
theorem puts_len : ∀ {l : List Tg} {ds : List D} {σ σ' : List Sl}, puts l ds σ = some σ' → ds.length = l.length
  | [], ds, σ, σ', e => by
    cases ds with
    | nil => rfl
    | cons _ _ => cases e
  | t :: l, ds, σ, σ', e => by
    cases ds with
    | nil => cases e
    | cons d ds =>
      have e' : (put t d σ).bind (puts l ds) = some σ' := e
      obtain ⟨σ1, e1, e2⟩ := Option.bind_eq_some_iff.mp e'
      rw [List.length_cons, List.length_cons, puts_len e2]
section
variable {C : Cn} {W : WX} {H0 : Hp} {ρ0 : Rho} {X : Cx} {σV : L2.St} {σ : List Sl} {ρ : Rho} {g : G} {H : Hp}
theorem sp_run {F : List D → M D} {n : Nat} {ds : List D} {vs : List V} {Q : VK} (h : At C W H0 ρ0 σV σ ρ g H (F ds g) fun d ρ' H' => ∀ v, Rep C ρ' H' d v → Q v H') (rv : Reps C ρ H ds vs) (hl : ds.length = n) : spM C n F vs H Q (WE W σV) := by
  obtain ⟨Fr, r, g', hm, hk⟩ := h
  refine ⟨rv.len.trans hl, ρ, g, ds, Fr.sto, rv, r, g', hm, ?_⟩
  cases r with
  | ok d => exact fun v ρ' H' st so rp => hk ρ' H' (Fr.step st so) st v rp
  | ex c => exact fun ρ' H' st so => hk ρ' H' (Fr.step st so)
section
variable {k : Nat} {f : Addr} {fd : FuncData} {ps : List Str} {F : List D → M D} {x : Str} {p pos : Pos}
theorem sE_call {e : Expr} {es : List Expr} {ms : List Sl → M (List D)} (tk : Takes X W) (G : FnOk X.prog X.w X.K X.mg X.base (L2.CX X.prog X.w) k f fd ps (spM C ps.length F)) (hr : Room k X.A) (hg : Gl X x) (hm : X.mg x = some (.ref f)) (hk : PySem.W.keepIn X.K (.ref f) = true) (hb : Binds X.K fd ps [])
    (hdb : (x == ("__debug__" : Str)) = false) (ok : (e :: es).all okE = true) (len : ∀ σ g ds g', ms σ g = some (.ok ds, g') → ds.length = ps.length) (ha : PA X (e :: es) (liftA C W H0 ρ0 ms)) :
    PE X (.Call (.Name x p) (e :: es) [] pos) (lift C W H0 ρ0 fun σ => M.bind (ms σ) fun ds => F ds) := by
  obtain ⟨o1, o2⟩ := Bool.and_eq_true_iff.mp (show (okE e && es.all okE) = true from ok)
  refine PE.imp (pe_callS (E := WE W) G hr hg hm hk hb (passAt tk) ha hdb (star_of o1 _ _) (stars_of o2 _ _)) fun σV H Q h => ?_
  obtain ⟨σ, ρ, g, Fr, r, g', hm, hq⟩ := h
  rcases bind_some hm with ⟨c, h1, rfl⟩ | ⟨ds, g1, h1, h2⟩
  · exact ⟨σ, ρ, g, Fr, .ex c, g', h1, hq⟩
  · refine ⟨σ, ρ, g, Fr, .ok ds, g1, h1, fun ρ1 H1 F1 s1 vs rv => sp_run (σ := σ) ⟨F1, r, g', h2, ?_⟩ rv (len σ g ds g1 h1)⟩
    cases r with
    | ok b => exact fun ρ' H' F' s' => hq ρ' H' F' (s1.trans s')
    | ex c => exact hq
theorem sE_call0 (tk : Takes X W) (G : FnOk X.prog X.w X.K X.mg X.base (L2.CX X.prog X.w) k f fd ps (spM C ps.length F)) (hr : Room k X.A) (hg : Gl X x) (hm : X.mg x = some (.ref f)) (hk : PySem.W.keepIn X.K (.ref f) = true) (hb : Binds X.K fd ps [])
    (hdb : (x == ("__debug__" : Str)) = false) (hl : ps.length = 0) : PE X (.Call (.Name x p) [] [] pos) (lift C W H0 ρ0 fun σ => F []) := by
  refine ⟨fun pins s σV H Q I h => ?_⟩
  refine wpAny_Call_Name_kw (ld_glob I hg hm ?_ hdb)
  obtain ⟨σ, ρ, g, h⟩ := h
  exact PySem.W.callWith_K0 I.kIn hk (run_fnS (E := WE W) (us := []) (vs := []) G hr hb (passAt tk σV) I .nil (sp_run (σ := σ) h rfl hl.symm))
end
/-! ### targets -/
mutual
def gT (K : PySem.W.Frag) : Tg → TG
  | .n i => gName i
  | .t l => gTup K l.length (gTs K l)
def gTs (K : PySem.W.Frag) : List Tg → TGs
  | [] => gNil
  | t :: l => gCons (gT K t) (gTs K l)
end
theorem own_imm {d : D} {ov : Option V} : own (.imm d) ov = none := by cases ov <;> rfl
theorem own_un {ov : Option V} : own .un ov = none := by cases ov <;> rfl
theorem Fm.set (F : Fm C H0 ρ0 σ σV ρ g H) {i : Nat} {d : D} {v : V} (r : Rep C ρ H d v) : Fm C H0 ρ0 (σ.set i (.imm d)) (σV.set i (some v)) ρ g H := by
  have sp : ∀ (j : Nat) s ov, (σ.set i (.imm d))[j]? = some s → (σV.set i (some v))[j]? = some ov → (j = i ∧ s = .imm d ∧ ov = some v) ∨ (j ≠ i ∧ σ[j]? = some s ∧ σV[j]? = some ov) := fun j s ov h1 h2 => by
    by_cases e : j = i
    · subst e
      have l1 : j < σ.length := by simpa using (List.getElem?_eq_some_iff.mp h1).1
      have l2 : j < σV.length := by simpa using (List.getElem?_eq_some_iff.mp h2).1
      rw [List.getElem?_set_self l1] at h1
      rw [List.getElem?_set_self l2] at h2
      cases h1
      cases h2
      exact .inl ⟨rfl, rfl, rfl⟩
    · rw [List.getElem?_set_ne (Ne.symm e)] at h1 h2
      exact .inr ⟨e, h1, h2⟩
  refine ⟨by simp [F.len], fun j s ov h1 h2 => ?_, fun j k s t ov ow a h1 h2 h3 h4 h5 h6 => ?_, fun j s ov a h1 h2 h3 => ?_, F.ext, F.pre, F.nrh, F.sto⟩
  · rcases sp j s ov h1 h2 with ⟨_, rfl, rfl⟩ | ⟨_, q1, q2⟩
    · exact ⟨v, rfl, r⟩
    · exact F.rep j s ov q1 q2
  · rcases sp j s ov h1 h2 with ⟨_, rfl, rfl⟩ | ⟨_, q1, q2⟩
    · rw [own_imm] at h3; cases h3
    · rcases sp k t ow h4 h5 with ⟨_, rfl, rfl⟩ | ⟨_, q3, q4⟩
      · rw [own_imm] at h6; cases h6
      · exact F.sep j k s t ov ow a q1 q2 h3 q3 q4 h6
  · rcases sp j s ov h1 h2 with ⟨_, rfl, rfl⟩ | ⟨_, q1, q2⟩
    · rw [own_imm] at h3; cases h3
    · exact F.new j s ov a q1 q2 h3
/-- a slot is forgotten -/
theorem Fm.forget (F : Fm C H0 ρ0 σ σV ρ g H) {i : Nat} {ov' : Option V} : Fm C H0 ρ0 (σ.set i .un) (σV.set i ov') ρ g H := by
  have sp : ∀ (j : Nat) s ov, (σ.set i .un)[j]? = some s → (σV.set i ov')[j]? = some ov → (s = .un) ∨ (σ[j]? = some s ∧ σV[j]? = some ov) := fun j s ov h1 h2 => by
    by_cases e : j = i
    · subst e
      have l1 : j < σ.length := by simpa using (List.getElem?_eq_some_iff.mp h1).1
      rw [List.getElem?_set_self l1] at h1
      cases h1
      exact .inl rfl
    · rw [List.getElem?_set_ne (Ne.symm e)] at h1 h2
      exact .inr ⟨h1, h2⟩
  refine ⟨by simp [F.len], fun j s ov h1 h2 => ?_, fun j k s t ov ow a h1 h2 h3 h4 h5 h6 => ?_, fun j s ov a h1 h2 h3 => ?_, F.ext, F.pre, F.nrh, F.sto⟩
  · rcases sp j s ov h1 h2 with rfl | ⟨q1, q2⟩
    · trivial
    · exact F.rep j s ov q1 q2
  · rcases sp j s ov h1 h2 with rfl | ⟨q1, q2⟩
    · rw [own_un] at h3; cases h3
    · rcases sp k t ow h4 h5 with rfl | ⟨q3, q4⟩
      · rw [own_un] at h6; cases h6
      · exact F.sep j k s t ov ow a q1 q2 h3 q3 q4 h6
  · rcases sp j s ov h1 h2 with rfl | ⟨q1, q2⟩
    · rw [own_un] at h3; cases h3
    · exact F.new j s ov a q1 q2 h3
theorem Fm.forget1 (F : Fm C H0 ρ0 σ σV ρ g H) {i : Nat} : Fm C H0 ρ0 (σ.set i .un) σV ρ g H := by
  by_cases h : i < σV.length
  · have := Fm.forget F (i := i) (ov' := σV[i])
    rwa [List.set_getElem_self] at this
  · rw [List.set_eq_of_length_le (by rw [F.len]; omega)]
    exact F
theorem Fm.clear (F : Fm C H0 ρ0 σ σV ρ g H) : ∀ is : List Nat, Fm C H0 ρ0 (MC.clear is σ) σV ρ g H := fun is => by
  induction is generalizing σ with
  | nil => exact F
  | cons i is ih => exact ih F.forget1
theorem Fm.wipe (F : Fm C H0 ρ0 σ σV ρ g H) : ∀ is : List Nat, Fm C H0 ρ0 (MC.clear is σ) (wipe σV is) ρ g H := fun is => by
  induction is generalizing σ σV with
  | nil => exact F
  | cons i is ih =>
    have := ih (Fm.forget F (i := i) (ov' := none))
    have e : ∀ (l : List Nat) (σ : L2.St), L2.wipe (σ.set i none) l = (L2.wipe σ l).set i none := fun l => by
      induction l with
      | nil => intro σ; rfl
      | cons j l ih =>
        intro σ
        show (L2.wipe (σ.set i none) l).set j none = ((L2.wipe σ l).set j none).set i none
        rw [ih]
        by_cases q : i = j
        · subst q; rfl
        · rw [List.set_comm _ _ q]
    rw [e] at this
    exact this
mutual
theorem put_ok : ∀ {tg : Tg} {d : D} {σ σ' : List Sl} {σV : L2.St} {v : V} {Q : L2.St → Hp → Prop}, put tg d σ = some σ' → Fm C H0 ρ0 σ σV ρ g H → Rep C ρ H d v → (∀ σV', σV'.length = σV.length → Fm C H0 ρ0 σ' σV' ρ g H → Q σV' H) → gT C.K tg v σV H Q
  | .n i, d, σ, σ', σV, v, Q, e, F, r, h => by
    have e' : (if i < σ.length then some (σ.set i (.imm d)) else none) = some σ' := e
    split at e'
    · cases e'
      exact h _ (by simp) (F.set r)
    · cases e'
  | .t l, d, σ, σ', σV, v, Q, e, F, r, h => by
    cases d with
    | tup ds =>
      obtain ⟨a, vs, rfl, q, rs⟩ := r
      have e' : puts l ds σ = some σ' := e
      have hl : ds.length = l.length := puts_len e'
      exact ⟨a, vs, rfl, SqT.of q, rs.len.trans hl, puts_ok e' F rs h⟩
    | _ => cases e
theorem puts_ok : ∀ {l : List Tg} {ds : List D} {σ σ' : List Sl} {σV : L2.St} {vs : List V} {Q : L2.St → Hp → Prop}, puts l ds σ = some σ' → Fm C H0 ρ0 σ σV ρ g H → Reps C ρ H ds vs → (∀ σV', σV'.length = σV.length → Fm C H0 ρ0 σ' σV' ρ g H → Q σV' H) → gTs C.K l vs σV H Q
  | [], ds, σ, σ', σV, vs, Q, e, F, r, h => by
    cases ds with
    | nil =>
      cases (Option.some.inj e : σ = σ')
      exact ⟨r, h _ rfl F⟩
    | cons _ _ => cases e
  | t :: l, ds, σ, σ', σV, vs, Q, e, F, r, h => by
    cases ds with
    | nil => cases e
    | cons d ds =>
      obtain ⟨v, w, rfl, r1, r2⟩ := r
      have e' : (put t d σ).bind (puts l ds) = some σ' := e
      obtain ⟨σ1, e1, e2⟩ := Option.bind_eq_some_iff.mp e'
      exact ⟨v, w, rfl, put_ok e1 F r1 fun σV1 l1 F1 => puts_ok e2 F1 r2 fun σV2 l2 F2 => h σV2 (l2.trans l1) F2⟩
end
end
end MC
namespace MC
open PySem PySem.Spec L2
/-- what a walk gives, while what stands still stands -/
structure Wk (C : Cn) (ρ : Rho) (J : L2.It) (items : List D) (H1 : Hp) : Prop where
  len : items.length ≤ sizeLine
  go : ∀ i H2, Keeps C.K H1 H2 → i < items.length → J.go i H2
  stop : ∀ H2, Keeps C.K H1 H2 → J.stop items.length H2
  yld : ∀ (i : Nat) H2 x H3 d, Keeps C.K H1 H2 → items[i]? = some d → J.yld i H2 x H3 → Grow H2 H3 ∧ ∀ ρ', ρ <+: ρ' → Rep C ρ' H3 d x
section
variable {C : Cn} {W : WX} {H0 : Hp} {ρ0 : Rho} {X : Cx} {σV : L2.St} {σ : List Sl} {ρ : Rho} {g : G} {H : Hp}
def liftI (C : Cn) (W : WX) (H0 : Hp) (ρ0 : Rho) (m : List Sl → M (List D)) : TI := fun σV H R => Run C W H0 ρ0 σV H m fun items ρ' H' => ∀ J, Wk C ρ' J items H' → R J H'
theorem PI.imp {tg e : Expr} {t t' : TI} (h : PI X tg e t) (k : ∀ σ H Q, t' σ H Q → t σ H Q) : PI X tg e t' := ⟨fun pins s σ H Q I hw => h.run pins s σ H Q I (k _ _ _ hw)⟩
theorem wk_list {a : Addr} {l : List D} {vs : List V} (hz : vs.length ≤ sizeLine) (q : FzL H a vs) (r : Reps C ρ H l vs) : Wk C ρ (Itl C.K a) l H := by
  have hl := r.len
  refine ⟨by omega, fun i H2 k hi => ?_, fun H2 k => ?_, fun i H2 x H3 d k e y => ?_⟩
  · exact ⟨vs, vs[i]'(by omega), FzL.sq (k.lst _ _ q), List.getElem?_eq_getElem (by omega)⟩
  · exact ⟨vs, FzL.sq (k.lst _ _ q), by omega⟩
  · obtain ⟨rfl, y⟩ := y
    obtain ⟨w, e1, rw'⟩ := r.get e
    have e2 := y vs (FzL.sq (k.lst _ _ q))
    rw [e1] at e2
    cases e2
    exact ⟨.refl _, fun ρ' p => rw'.to k p⟩
theorem wk_tup {a : Addr} {l : List D} {vs : List V} (hz : vs.length ≤ sizeLine) (q : TpH H a vs) (r : Reps C ρ H l vs) : Wk C ρ (Itt C.K a) l H := by
  have hl := r.len
  refine ⟨by omega, fun i H2 k hi => ?_, fun H2 k => ?_, fun i H2 x H3 d k e y => ?_⟩
  · exact ⟨vs, vs[i]'(by omega), SqT.of (k.tup _ _ q), List.getElem?_eq_getElem (by omega)⟩
  · exact ⟨vs, SqT.of (k.tup _ _ q), by omega⟩
  · obtain ⟨rfl, y⟩ := y
    obtain ⟨w, e1, rw'⟩ := r.get e
    have e2 := y vs (SqT.of (k.tup _ _ q))
    rw [e1] at e2
    cases e2
    exact ⟨.refl _, fun ρ' p => rw'.to k p⟩
theorem rangeD_len (lo hi : Int) : (rangeD lo hi).length = (hi - lo).toNat := by simp [rangeD]
theorem wk_range {lo hi : Int} {n : Nat} (hz : (hi - lo).toNat ≤ sizeLine) (hn : n = (hi - lo).toNat) : Wk C ρ (Itr lo n) (rangeD lo hi) H := by
  subst hn
  refine ⟨by rw [rangeD_len]; exact hz, fun i H2 k hi => ?_, fun H2 k => ?_, fun i H2 x H3 d k e y => ?_⟩
  · rw [rangeD_len] at hi; exact hi
  · show _ ≤ (rangeD lo hi).length
    rw [rangeD_len]
    exact Nat.le_refl _
  · obtain ⟨rfl, rfl⟩ := y
    refine ⟨.refl _, fun ρ' p => ?_⟩
    unfold rangeD at e
    rw [List.getElem?_map] at e
    obtain ⟨j, e1, rfl⟩ := Option.map_eq_some_iff.mp e
    obtain ⟨h1, h2⟩ := List.getElem?_eq_some_iff.mp e1
    rw [List.getElem_range] at h2
    rw [h2]
    rfl
theorem enum_get : ∀ (l : List D) (k i : Nat), (enumFrom k l)[i]? = l[i]?.map fun d => .tup [.int ((k + i : Nat) : Int), d]
  | [], k, i => by simp [enumFrom]
  | d :: l, k, 0 => by simp [enumFrom]
  | d :: l, k, i + 1 => by
    rw [enumFrom, List.getElem?_cons_succ, List.getElem?_cons_succ, enum_get l (k + 1) i, show k + 1 + i = k + (i + 1) by omega]
theorem enum_len (l : List D) (k : Nat) : (enumFrom k l).length = l.length := by
  induction l generalizing k with
  | nil => rfl
  | cons d l ih => rw [enumFrom, List.length_cons, List.length_cons, ih]
theorem wk_enumL {a : Addr} {l : List D} {vs : List V} (hz : vs.length ≤ sizeLine) (q : FzL H a vs) (r : Reps C ρ H l vs) : Wk C ρ (Ite C.K a) (enumFrom 0 l) H := by
  have hl := r.len
  refine ⟨by rw [enum_len]; omega, fun i H2 k hi => ?_, fun H2 k => ?_, fun i H2 x H3 d k e y => ?_⟩
  · rw [enum_len] at hi
    exact ⟨vs, vs[i]'(by omega), FzL.sq (k.lst _ _ q), List.getElem?_eq_getElem (by omega)⟩
  · exact ⟨vs, FzL.sq (k.lst _ _ q), by rw [enum_len]; omega⟩
  · obtain ⟨T, y, rfl, nT, rfl, hy⟩ := y
    rw [enum_get] at e
    obtain ⟨d', e1, rfl⟩ := Option.map_eq_some_iff.mp e
    obtain ⟨w, e2, rw'⟩ := r.get e1
    have e3 := hy vs (FzL.sq (k.lst _ _ q))
    rw [e2] at e3
    cases e3
    refine ⟨Grow.upd nT, fun ρ' p => ⟨T, _, rfl, upd_same, _, _, rfl, ?_, _, _, rfl, (rw'.to k p).grow (Grow.upd nT), rfl⟩⟩
    show V.int _ = V.int _
    rw [Nat.zero_add]
theorem wk_enumT {a : Addr} {l : List D} {vs : List V} (hz : vs.length ≤ sizeLine) (q : TpH H a vs) (r : Reps C ρ H l vs) : Wk C ρ (IteT C.K a) (enumFrom 0 l) H := by
  have hl := r.len
  refine ⟨by rw [enum_len]; omega, fun i H2 k hi => ?_, fun H2 k => ?_, fun i H2 x H3 d k e y => ?_⟩
  · rw [enum_len] at hi
    exact ⟨vs, vs[i]'(by omega), SqT.of (k.tup _ _ q), List.getElem?_eq_getElem (by omega)⟩
  · exact ⟨vs, SqT.of (k.tup _ _ q), by rw [enum_len]; omega⟩
  · obtain ⟨T, y, rfl, nT, rfl, hy⟩ := y
    rw [enum_get] at e
    obtain ⟨d', e1, rfl⟩ := Option.map_eq_some_iff.mp e
    obtain ⟨w, e2, rw'⟩ := r.get e1
    have e3 := hy vs (SqT.of (k.tup _ _ q))
    rw [e2] at e3
    cases e3
    refine ⟨Grow.upd nT, fun ρ' p => ⟨T, _, rfl, upd_same, _, _, rfl, ?_, _, _, rfl, (rw'.to k p).grow (Grow.upd nT), rfl⟩⟩
    show V.int _ = V.int _
    rw [Nat.zero_add]
theorem zip_get : ∀ (l m : List D) (i : Nat) (d : D), (zipD l m)[i]? = some d → ∃ a b, l[i]? = some a ∧ m[i]? = some b ∧ d = .tup [a, b]
  | [], m, i, d, h => by simp [zipD] at h
  | a :: l, [], i, d, h => by simp [zipD] at h
  | a :: l, b :: m, 0, d, h => by
    simp [zipD] at h
    exact ⟨a, b, rfl, rfl, h.symm⟩
  | a :: l, b :: m, i + 1, d, h => by
    rw [zipD, List.getElem?_cons_succ] at h
    obtain ⟨x, y, h1, h2, h3⟩ := zip_get l m i d h
    exact ⟨x, y, by simpa using h1, by simpa using h2, h3⟩
theorem zip_len : ∀ l m : List D, (zipD l m).length = min l.length m.length
  | [], m => by simp [zipD]
  | a :: l, [] => by simp [zipD]
  | a :: l, b :: m => by
    rw [zipD, List.length_cons, List.length_cons, List.length_cons, zip_len l m]
    omega
theorem wk_zipL {a b : Addr} {l m : List D} {vs ws : List V} (hz : vs.length ≤ sizeLine) (q : FzL H a vs) (r : Reps C ρ H l vs) (q' : FzL H b ws) (r' : Reps C ρ H m ws) : Wk C ρ (Itz C.K a b) (zipD l m) H := by
  have hl := r.len
  have hl' := r'.len
  refine ⟨by rw [zip_len]; omega, fun i H2 k hi => ?_, fun H2 k => ?_, fun i H2 x H3 d k e y => ?_⟩
  · rw [zip_len] at hi
    exact ⟨vs, ws, vs[i]'(by omega), ws[i]'(by omega), FzL.sq (k.lst _ _ q), FzL.sq (k.lst _ _ q'), List.getElem?_eq_getElem (by omega), List.getElem?_eq_getElem (by omega)⟩
  · exact ⟨vs, ws, FzL.sq (k.lst _ _ q), FzL.sq (k.lst _ _ q'), by rw [zip_len]; omega⟩
  · obtain ⟨T, y, z, rfl, nT, rfl, hy, hz⟩ := y
    obtain ⟨d1, d2, e1, e2, rfl⟩ := zip_get l m i d e
    obtain ⟨w, e3, rw'⟩ := r.get e1
    obtain ⟨w2, e4, rw2⟩ := r'.get e2
    have e5 := hy vs (FzL.sq (k.lst _ _ q))
    have e6 := hz ws (FzL.sq (k.lst _ _ q'))
    rw [e3] at e5
    rw [e4] at e6
    cases e5
    cases e6
    exact ⟨Grow.upd nT, fun ρ' p => ⟨T, _, rfl, upd_same, _, _, rfl, (rw'.to k p).grow (Grow.upd nT), _, _, rfl, (rw2.to k p).grow (Grow.upd nT), rfl⟩⟩
theorem wk_zipT {a b : Addr} {l m : List D} {vs ws : List V} (hz : vs.length ≤ sizeLine) (q : TpH H a vs) (r : Reps C ρ H l vs) (q' : TpH H b ws) (r' : Reps C ρ H m ws) : Wk C ρ (RZ.ItzT C.K a b) (zipD l m) H := by
  have hl := r.len
  have hl' := r'.len
  refine ⟨by rw [zip_len]; omega, fun i H2 k hi => ?_, fun H2 k => ?_, fun i H2 x H3 d k e y => ?_⟩
  · rw [zip_len] at hi
    exact ⟨vs, ws, vs[i]'(by omega), ws[i]'(by omega), SqT.of (k.tup _ _ q), SqT.of (k.tup _ _ q'), List.getElem?_eq_getElem (by omega), List.getElem?_eq_getElem (by omega)⟩
  · exact ⟨vs, ws, SqT.of (k.tup _ _ q), SqT.of (k.tup _ _ q'), by rw [zip_len]; omega⟩
  · obtain ⟨T, y, z, rfl, nT, rfl, hy, hz⟩ := y
    obtain ⟨d1, d2, e1, e2, rfl⟩ := zip_get l m i d e
    obtain ⟨w, e3, rw'⟩ := r.get e1
    obtain ⟨w2, e4, rw2⟩ := r'.get e2
    have e5 := hy vs (SqT.of (k.tup _ _ q))
    have e6 := hz ws (SqT.of (k.tup _ _ q'))
    rw [e3] at e5
    rw [e4] at e6
    cases e5
    cases e6
    exact ⟨Grow.upd nT, fun ρ' p => ⟨T, _, rfl, upd_same, _, _, rfl, (rw'.to k p).grow (Grow.upd nT), _, _, rfl, (rw2.to k p).grow (Grow.upd nT), rfl⟩⟩
/-! ### the walked things -/
/-- no list is longer than the line -/
def LenOk (K : PySem.W.Frag) (H : Hp) : Prop := ∀ a xs, SqL K H a xs ∨ SqT K H a xs → xs.length ≤ sizeLine
theorem inv_len {pins : List (Addr × Obj)} {s : Shared} (I : L2.Inv X pins σV H s) : LenOk X.K H := fun a xs h => by
  rcases h with h | h
  · obtain ⟨_, _, _, z⟩ := I.list h
    exact z
  · obtain ⟨_, _, _, z⟩ := I.tuple h
    exact z
theorem PE.lenH {e : Expr} {t : TE} (h : PE X e t) : PE X e (fun σ H Q => t σ H fun v H1 => LenOk X.K H1 → Q v H1) :=
  ⟨fun pins s σ H Q I hw => thn (h.run pins s σ H _ I hw) fun _ _ ⟨v, H', I', r, q⟩ => ⟨v, H', I', r, q (inv_len I')⟩⟩
open PyProof.Rows in
theorem pi_seqA {tg l : Expr} {tl : TE} (hl : PE X l tl) : PI X tg l (fun σ H R => tl σ H fun x H1 => ∃ a xs, x = .ref a ∧ ((SqL X.K H1 a xs ∧ R (Itl X.K a) H1) ∨ (SqT X.K H1 a xs ∧ R (Itt X.K a) H1))) := by
  refine ⟨fun pins s σ H R I h => ?_⟩
  refine thn (hl.run pins s σ H _ I h) fun v s1 ⟨x, H1, I1, r1, q1⟩ => ?_
  obtain ⟨a, xs, e, q⟩ := q1
  subst e
  cases r1
  have fp : ∀ b ∈ [s1.heap.objs.size], FpOk X pins H1 b := fun b hb => by
    have e : b = s1.heap.objs.size := by simpa using hb
    subst e
    exact I1.fpOk (Nat.le_refl _) (I1.hok.fresh (Nat.le_refl _))
  rcases q with ⟨hq, q⟩ | ⟨hq, q⟩
  · obtain ⟨its, rv, p, hz⟩ := I1.list hq
    refine wpAny_pyIter_list p.isList ?_
    exact ⟨s1.heap.objs.size, [s1.heap.objs.size], _, _, H1, rfl, I1.kept (t' := s1.toks) fun b o e => Heap.get?_push_of_some _ e, turn_list a _, ⟨_, Heap.get?_push_size _ rfl, rfl, rfl⟩, fp, q⟩
  · obtain ⟨its, rv, p, hz⟩ := I1.tuple hq
    refine wpAny_pyIter_tuple (show s1.heap.IsTuple a its.toArray from p) ?_
    exact ⟨s1.heap.objs.size, [s1.heap.objs.size], _, _, H1, rfl, I1.kept (t' := s1.toks) fun b o e => Heap.get?_push_of_some _ e, turn_tuple a _, ⟨_, Heap.get?_push_size _ rfl, rfl, rfl⟩, fp, q⟩
def LenD (H : Hp) : Prop := ∀ a o, (∀ kvs, H a = some (.frz o (.dK kvs)) → kvs.length ≤ sizeLine) ∧ ∀ kvs, H a = some (.frz o (.dT kvs)) → kvs.length ≤ sizeLine
theorem inv_lenD {pins : List (Addr × Obj)} {s : Shared} (I : L2.Inv X pins σV H s) : LenD H := fun a o => ⟨fun kvs h => (dk_rd I.hok (.inr ⟨o, h⟩)).1, fun kvs h => (dt_rd I.hok (.inr ⟨o, h⟩)).1⟩
theorem PE.lenHD {e : Expr} {t : TE} (h : PE X e t) : PE X e (fun σ H Q => t σ H fun v H1 => LenOk X.K H1 → LenD H1 → Q v H1) :=
  ⟨fun pins s σ H Q I hw => thn (h.run pins s σ H _ I hw) fun _ _ ⟨v, H', I', r, q⟩ => ⟨v, H', I', r, q (inv_len I') (inv_lenD I')⟩⟩
theorem wk_keys {a : Addr} {o : Obj} {kvs : List (Key × V)} (hz : kvs.length ≤ sizeLine) (q : H a = some (.frz o (.dK kvs))) : Wk C ρ (Itk a o kvs) (kvs.map fun p => keyD p.1) H := by
  refine ⟨by rw [List.length_map]; exact hz, fun i H2 k hi => ⟨k.frz _ _ _ q, by simpa using hi⟩, fun H2 k => ⟨k.frz _ _ _ q, by simp⟩, fun i H2 x H3 d k e y => ?_⟩
  obtain ⟨rfl, ky, v, e1, rfl⟩ := y
  rw [List.getElem?_map, e1] at e
  cases (Option.some.inj e : keyD ky = d)
  exact ⟨.refl _, fun ρ' p => key_rep _⟩
theorem wk_keysT {a : Addr} {o : Obj} {kvs : List (List Key × V)} (hz : kvs.length ≤ sizeLine) (q : H a = some (.frz o (.dT kvs))) : Wk C ρ (Itkt a o kvs) (kvs.map fun p => keyTD p.1) H := by
  refine ⟨by rw [List.length_map]; exact hz, fun i H2 k hi => ⟨k.frz _ _ _ q, by simpa using hi⟩, fun H2 k => ⟨k.frz _ _ _ q, by simp⟩, fun i H2 x H3 d k e y => ?_⟩
  obtain ⟨rfl, ky, v, b, e1, rfl, hb⟩ := y
  rw [List.getElem?_map, e1] at e
  cases (Option.some.inj e : keyTD ky = d)
  exact ⟨.refl _, fun ρ' p => ⟨b, _, rfl, hb, keys_reps _⟩⟩
/-- lists, tuples, dicts that stand still -/
def WkAt (K : PySem.W.Frag) (H1 : Hp) (R : L2.It → Hp → Prop) (a : Addr) : Prop := (∃ xs, SqL K H1 a xs ∧ R (Itl K a) H1) ∨ (∃ xs, SqT K H1 a xs ∧ R (Itt K a) H1) ∨ (∃ o kvs, H1 a = some (.frz o (.dK kvs)) ∧ R (Itk a o kvs) H1) ∨ ∃ o kvs, H1 a = some (.frz o (.dT kvs)) ∧ R (Itkt a o kvs) H1
open PyProof.Rows in
theorem pi_all {tg l : Expr} {tl : TE} (hl : PE X l tl) : PI X tg l (fun σ H R => tl σ H fun x H1 => ∃ a, x = .ref a ∧ WkAt X.K H1 R a) := by
  refine ⟨fun pins s σ H R I h => ?_⟩
  refine thn (hl.run pins s σ H _ I h) fun v s1 ⟨x, H1, I1, r1, q1⟩ => ?_
  obtain ⟨a, e, q⟩ := q1
  subst e
  obtain rfl : v = Value.ref a := r1
  have fp : ∀ b ∈ [s1.heap.objs.size], FpOk X pins H1 b := fun b hb => by
    have e : b = s1.heap.objs.size := by simpa using hb
    subst e
    exact I1.fpOk (Nat.le_refl _) (I1.hok.fresh (Nat.le_refl _))
  rcases q with ⟨xs, hq, q⟩ | ⟨xs, hq, q⟩ | ⟨o, kvs, hd, q⟩ | ⟨o, kvs, hd, q⟩
  · obtain ⟨its, rv, p, hz⟩ := I1.list hq
    refine wpAny_pyIter_list p.isList ?_
    exact ⟨s1.heap.objs.size, [s1.heap.objs.size], _, _, H1, rfl, I1.kept (t' := s1.toks) fun b o e => Heap.get?_push_of_some _ e, turn_list a _, ⟨_, Heap.get?_push_size _ rfl, rfl, rfl⟩, fp, q⟩
  · obtain ⟨its, rv, p, hz⟩ := I1.tuple hq
    refine wpAny_pyIter_tuple (show s1.heap.IsTuple a its.toArray from p) ?_
    exact ⟨s1.heap.objs.size, [s1.heap.objs.size], _, _, H1, rfl, I1.kept (t' := s1.toks) fun b o e => Heap.get?_push_of_some _ e, turn_tuple a _, ⟨_, Heap.get?_push_size _ rfl, rfl, rfl⟩, fp, q⟩
  · obtain ⟨hs, hgd, hx, es, ep, vs, hdt, hsz, kv, hm⟩ := I1.frzK hd
    refine iter_keys hs hgd hx hdt (pi_one (tk := s1.toks) I1 _ (turn_keys _ hdt) ⟨_, Heap.get?_push_size _ rfl, rfl, ?_⟩ q)
    rw [hsz] <;> rfl
  · obtain ⟨hs, hgd, hx, es, ep, hdt, hsz, ent⟩ := I1.frzT hd
    refine iter_keys hs hgd hx hdt (pi_one (tk := s1.toks) I1 _ (turn_keysT _ hdt) ⟨_, Heap.get?_push_size _ rfl, rfl, ?_⟩ q)
    rw [hsz] <;> rfl
theorem sI_e {tg e : Expr} {m : List Sl → M D} (hK : X.K = C.K) (h : PE X e (lift C W H0 ρ0 m)) : PI X tg e (liftI C W H0 ρ0 fun σ => M.bind (m σ) fun x => M.opt (walkE x)) := by
  refine PI.imp (pi_all (PE.lenHD h)) fun σV H Q h => ?_
  obtain ⟨σ, ρ, g, h⟩ := h
  refine ⟨σ, ρ, g, At.bind h fun x ρ1 H1 g1 s1 h1 v rv lo ld => ?_⟩
  obtain ⟨l, e, F1, hk⟩ := At.opt h1
  rw [hK] at lo
  rw [hK]
  cases x with
  | tup l' =>
    cases (Option.some.inj e : l' = l)
    obtain ⟨a, vs, rfl, q, r⟩ := rv
    exact ⟨a, rfl, .inr (.inl ⟨vs, SqT.of q, hk ρ1 H1 F1 (.refl _ _) _ (wk_tup (lo _ _ (.inr (SqT.of q))) q r)⟩)⟩
  | lst l' =>
    cases (Option.some.inj e : l' = l)
    obtain ⟨a, vs, rfl, q, r⟩ := rv
    exact ⟨a, rfl, .inl ⟨vs, FzL.sq q, hk ρ1 H1 F1 (.refl _ _) _ (wk_list (lo _ _ (.inl (FzL.sq q))) q r)⟩⟩
  | dct t ks vs =>
    cases (Option.some.inj e : ks = l)
    obtain ⟨a, o, rfl, rv⟩ := rv
    refine ⟨a, rfl, .inr (.inr ?_)⟩
    rcases rv with ⟨_, kvs, q, rfl, _⟩ | ⟨_, kvs, q, rfl, _⟩
    · exact .inl ⟨o, kvs, q, hk ρ1 H1 F1 (.refl _ _) _ (wk_keys ((ld a o).1 _ q) q)⟩
    · exact .inr ⟨o, kvs, q, hk ρ1 H1 F1 (.refl _ _) _ (wk_keysT ((ld a o).2 _ q) q)⟩
  | _ => cases e
theorem lim62_eq : lim62 = 2 ^ 62 := by decide
theorem sI_rng1 {tg a : Expr} {ms : List Sl → M (List D)} {p pos : Pos} (ok : okE a = true) (hg : Gl X "range") (hm : X.mg "range" = none) (ha : PA X [a] (liftA C W H0 ρ0 ms)) (len : ∀ σ g ds g', ms σ g = some (.ok ds, g') → ds.length = 1) :
    PI X tg (.Call (.Name "range" p) [a] [] pos) (liftI C W H0 ρ0 fun σ => M.bind (ms σ) fun ds => M.opt (walkR ds)) := by
  refine PI.imp (pi_range1 hg hm ha (star_of ok _ _)) fun σV H Q h => ?_
  obtain ⟨σ, ρ, g, Fr, r, g', hm, hq⟩ := h
  rcases bind_some hm with ⟨c, h1, rfl⟩ | ⟨ds, g1, h1, h2⟩
  · exact ⟨σ, ρ, g, Fr, .ex c, g', h1, hq⟩
  · refine ⟨σ, ρ, g, Fr, .ok ds, g1, h1, fun ρ1 H1 F1 s1 vs rv => ?_⟩
    obtain ⟨items, e, rfl, rfl⟩ := opt_some h2
    have l1 := len σ g ds _ h1
    match ds, e, l1 with
    | [.int j], e, _ =>
      have e' : (if -lim62 ≤ j ∧ j < lim62 ∧ j ≤ 16777216 then some (rangeD 0 j) else none) = some items := e
      split at e'
      · rename_i hz
        cases e'
        rw [lim62_eq] at hz
        obtain ⟨v, rfl, hv⟩ := reps1 rv
        exact ⟨j, by rw [show v = .int j from hv], hz.1, hz.2.1, hq ρ1 H1 F1 s1 _ (wk_range (by rw [sizeLine_eq]; omega) (by simp))⟩
      · cases e'
theorem sI_rng2 {tg a b : Expr} {ms : List Sl → M (List D)} {p pos : Pos} (ok : okE a = true) (ok2 : okE b = true) (hg : Gl X "range") (hm : X.mg "range" = none) (ha : PA X [a, b] (liftA C W H0 ρ0 ms)) (len : ∀ σ g ds g', ms σ g = some (.ok ds, g') → ds.length = 2) :
    PI X tg (.Call (.Name "range" p) [a, b] [] pos) (liftI C W H0 ρ0 fun σ => M.bind (ms σ) fun ds => M.opt (walkR ds)) := by
  refine PI.imp (pi_range2 hg hm ha (by rw [star_of ok, star_of ok2]; rfl) (star_of ok2 _ _)) fun σV H Q h => ?_
  obtain ⟨σ, ρ, g, Fr, r, g', hm, hq⟩ := h
  rcases bind_some hm with ⟨c, h1, rfl⟩ | ⟨ds, g1, h1, h2⟩
  · exact ⟨σ, ρ, g, Fr, .ex c, g', h1, hq⟩
  · refine ⟨σ, ρ, g, Fr, .ok ds, g1, h1, fun ρ1 H1 F1 s1 vs rv => ?_⟩
    obtain ⟨items, e, rfl, rfl⟩ := opt_some h2
    have l1 := len σ g ds _ h1
    match ds, e, l1 with
    | [.int i, .int j], e, _ =>
      have e' : (if (-lim62 ≤ i ∧ i < lim62) ∧ -lim62 ≤ j ∧ j < lim62 ∧ j - i ≤ 16777216 then some (rangeD i j) else none) = some items := e
      split at e'
      · rename_i hz
        cases e'
        rw [lim62_eq] at hz
        obtain ⟨v, w, rfl, hv, hw⟩ := reps2 rv
        exact ⟨i, j, by rw [show v = .int i from hv, show w = .int j from hw], ⟨hz.1.1, hz.1.2, hz.2.1, hz.2.2.1⟩, hq ρ1 H1 F1 s1 _ (wk_range (by rw [sizeLine_eq]; omega) rfl)⟩
      · cases e'
open PyProof.Rows in
theorem pi_enumA {e : Expr} {ta : TA} {p pos tpos : Pos} {elts : List Expr} {kk : Nat} (hg : Gl X "enumerate") (hm : X.mg "enumerate" = none) (ha : PA X [e] ta) (hs : starEach [e] X.env = [(false, eval e X.env)]) :
    PI X (.Tuple elts kk tpos) (.Call (.Name "enumerate" p) [e] [] pos) (fun σ H R => ta σ H fun vs H1 => ∃ a xs, vs = [.ref a] ∧ ((SqL X.K H1 a xs ∧ R (Ite X.K a) H1) ∨ (SqT X.K H1 a xs ∧ R (IteT X.K a) H1))) := by
  refine ⟨fun pins s σ H R I h => ?_⟩
  refine Call_ (ld_blt I hg hm boot_enumerate (PyProof.Rows.callWith_type1 (thn (ha.run pos pins s σ H _ I h) fun us s1 ⟨vs, H1, I1, r1, q1⟩ => ?_) hs rfl))
  obtain ⟨a, xs, ex, q⟩ := q1
  subst ex
  cases r1 with
  | cons r rr =>
    cases rr
    cases r
    have fp : ∀ b ∈ [s1.heap.objs.size + 1, s1.heap.objs.size], FpOk X pins H1 b := fun b hb => by
      have e' : b = s1.heap.objs.size + 1 ∨ b = s1.heap.objs.size := by simpa using hb
      have hle : s1.heap.objs.size ≤ b := by
        rcases e' with z | z
        · rw [z]; exact Nat.le_add_right _ _
        · rw [z]; exact Nat.le_refl _
      exact I1.fpOk hle (I1.hok.fresh hle)
    rcases q with ⟨hq, q⟩ | ⟨hq, q⟩
    · obtain ⟨its, rv, p', hz⟩ := I1.list hq
      refine call_enumerate_list p'.isList fun h' he hit hsz hk => wpAny_pyIter_enum he ?_
      exact ⟨s1.heap.objs.size + 1, [s1.heap.objs.size + 1, s1.heap.objs.size], _, _, H1, rfl, I1.kept (t' := s1.toks) hk, turn_enum a (s1.heap.objs.size + 1) s1.heap.objs.size, ⟨⟨.none, he⟩, hit, Nat.succ_ne_self _⟩, fp, q⟩
    · obtain ⟨its, rv, p', hz⟩ := I1.tuple hq
      refine call_enumT p' fun h' he hit hsz hk => wpAny_pyIter_enum he ?_
      exact ⟨s1.heap.objs.size + 1, [s1.heap.objs.size + 1, s1.heap.objs.size], _, _, H1, rfl, I1.kept (t' := s1.toks) hk, turn_enumT a (s1.heap.objs.size + 1) s1.heap.objs.size, ⟨⟨.none, he⟩, hit, Nat.succ_ne_self _⟩, fp, q⟩
theorem sI_enum {elts : List Expr} {kk : Nat} {tpos : Pos} {a : Expr} {m : List Sl → M D} {p pos : Pos} (hK : X.K = C.K) (ok : okE a = true) (hg : Gl X "enumerate") (hm : X.mg "enumerate" = none) (h : PE X a (lift C W H0 ρ0 m)) :
    PI X (.Tuple elts kk tpos) (.Call (.Name "enumerate" p) [a] [] pos) (liftI C W H0 ρ0 fun σ => M.bind (m σ) fun x => M.opt ((walkL x).map (enumFrom 0))) := by
  refine PI.imp (pi_enumA hg hm (pa_cons (PE.lenH h) pa_nil (star_of ok _ _)) (star_of ok _ _)) fun σV H Q h => ?_
  obtain ⟨σ, ρ, g, h⟩ := h
  refine ⟨σ, ρ, g, At.bind h fun x ρ1 H1 g1 s1 h1 v rv lo => ?_⟩
  obtain ⟨l, e, F1, hk⟩ := At.opt h1
  rw [hK] at lo
  obtain ⟨l0, e0, rfl⟩ := Option.map_eq_some_iff.mp e
  rw [hK]
  cases x with
  | tup l' =>
    cases (Option.some.inj e0 : l' = l0)
    obtain ⟨a, vs, rfl, q, r⟩ := rv
    exact ⟨a, vs, rfl, .inr ⟨SqT.of q, hk ρ1 H1 F1 (.refl _ _) _ (wk_enumT (lo _ _ (.inr (SqT.of q))) q r)⟩⟩
  | lst l' =>
    cases (Option.some.inj e0 : l' = l0)
    obtain ⟨a, vs, rfl, q, r⟩ := rv
    exact ⟨a, vs, rfl, .inl ⟨FzL.sq q, hk ρ1 H1 F1 (.refl _ _) _ (wk_enumL (lo _ _ (.inl (FzL.sq q))) q r)⟩⟩
  | _ => cases e0
theorem sI_zip {elts : List Expr} {kk : Nat} {tpos : Pos} {a b : Expr} {ma mb : List Sl → M D} {p pos : Pos} (hK : X.K = C.K) (ok : okE a = true) (ok2 : okE b = true) (hg : Gl X "zip") (hm : X.mg "zip" = none) (ha : PE X a (lift C W H0 ρ0 ma)) (hb : PE X b (lift C W H0 ρ0 mb)) :
    PI X (.Tuple elts kk tpos) (.Call (.Name "zip" p) [a, b] [] pos) (liftI C W H0 ρ0 fun σ => M.bind (ma σ) fun x => M.bind (mb σ) fun y => M.opt (walkZ x y)) := by
  refine PI.imp (RZ.pi_zipA hg hm (pa_cons ha (pa_cons (PE.lenH hb) pa_nil (star_of ok2 _ _)) (star_of ok _ _)) (star_of ok _ _) (stars_of (by simp [ok2]) _ _)) fun σV H Q h => ?_
  obtain ⟨σ, ρ, g, h⟩ := h
  refine ⟨σ, ρ, g, At.bind h fun x ρ1 H1 g1 s1 h1 v rv => ?_⟩
  have F1 := h1.1
  refine ⟨σ, ρ1, g1, At.bind h1 fun y ρ2 H2 g2 s2 h2 w rw' lo => ?_⟩
  rw [hK] at lo
  obtain ⟨l, e, F2, hk⟩ := At.opt h2
  have rv := rv.to (s2.keeps F1.rok) s2.pre
  rw [hK]
  match x, y, e with
  | .tup l1, .tup l2, e =>
    cases (Option.some.inj e : zipD l1 l2 = l)
    obtain ⟨a, vs, rfl, q, r⟩ := rv
    obtain ⟨a2, vs2, rfl, q2, r2⟩ := rw'
    exact ⟨a, a2, vs, vs2, rfl, .inr ⟨SqT.of q, SqT.of q2, hk ρ2 H2 F2 (.refl _ _) _ (wk_zipT (lo _ _ (.inr (SqT.of q))) q r q2 r2)⟩⟩
  | .lst l1, .lst l2, e =>
    cases (Option.some.inj e : zipD l1 l2 = l)
    obtain ⟨a, vs, rfl, q, r⟩ := rv
    obtain ⟨a2, vs2, rfl, q2, r2⟩ := rw'
    exact ⟨a, a2, vs, vs2, rfl, .inl ⟨FzL.sq q, FzL.sq q2, hk ρ2 H2 F2 (.refl _ _) _ (wk_zipL (lo _ _ (.inl (FzL.sq q))) q r q2 r2)⟩⟩
end
end MC
namespace MC
open PySem PySem.Spec L2
mutual
def tgSlots : Tg → List Nat
  | .n i => [i]
  | .t l => tgsSlots l
def tgsSlots : List Tg → List Nat
  | [] => []
  | t :: l => tgSlots t ++ tgsSlots l
end
theorem wipe_set (i : Nat) (v : Option V) : ∀ (own : List Nat) (σ : L2.St), i ∈ own → wipe (σ.set i v) own = wipe σ own
  | j :: own, σ, h => by
    show (wipe (σ.set i v) own).set j none = (wipe σ own).set j none
    by_cases e : i ∈ own
    · rw [wipe_set i v own σ e]
    · have ej : i = j := by
        rcases List.mem_cons.mp h with z | z
        · exact z
        · exact absurd z e
      subst ej
      have : ∀ (l : List Nat) (σ : L2.St), i ∉ l → wipe (σ.set i v) l = (wipe σ l).set i v := fun l => by
        induction l with
        | nil => intro σ _; rfl
        | cons k l ih =>
          intro σ hn
          show (wipe (σ.set i v) l).set k none = ((wipe σ l).set k none).set i v
          have h1 : i ≠ k := fun z => hn (by rw [z]; exact List.mem_cons_self)
          rw [ih σ (fun z => hn (List.mem_cons_of_mem _ z)), List.set_comm _ _ h1]
      rw [this own σ e, List.set_set]
theorem wipe_wipe : ∀ (own l : List Nat) (σ : L2.St), (∀ i ∈ l, i ∈ own) → wipe (wipe σ l) own = wipe σ own
  | own, [], σ, _ => rfl
  | own, j :: l, σ, h => by
    show wipe ((wipe σ l).set j none) own = wipe σ own
    rw [wipe_set j none own _ (h j List.mem_cons_self)]
    exact wipe_wipe own l σ fun i hi => h i (List.mem_cons_of_mem _ hi)
section
variable {C : Cn} {W : WX} {H0 : Hp} {ρ0 : Rho} {X : Cx} {σV : L2.St} {σ : List Sl} {ρ : Rho} {g : G} {H : Hp}
mutual
theorem put_okW : ∀ {tg : Tg} {own : List Nat} {d : D} {σ σ' : List Sl} {σV : L2.St} {v : V} {Q : L2.St → Hp → Prop}, (∀ i ∈ tgSlots tg, i ∈ own) → put tg d σ = some σ' → Fm C H0 ρ0 σ σV ρ g H → Rep C ρ H d v → (∀ σV', wipe σV' own = wipe σV own → Fm C H0 ρ0 σ' σV' ρ g H → Q σV' H) → gT C.K tg v σV H Q
  | .n i, own, d, σ, σ', σV, v, Q, hin, e, F, r, h => by
    have e' : (if i < σ.length then some (σ.set i (.imm d)) else none) = some σ' := e
    split at e'
    · cases e'
      exact h _ (wipe_set i _ own σV (hin i (List.mem_singleton.mpr rfl))) (F.set r)
    · cases e'
  | .t l, own, d, σ, σ', σV, v, Q, hin, e, F, r, h => by
    cases d with
    | tup ds =>
      obtain ⟨a, vs, rfl, q, rs⟩ := r
      have e' : puts l ds σ = some σ' := e
      have hl : ds.length = l.length := puts_len e'
      exact ⟨a, vs, rfl, SqT.of q, rs.len.trans hl, puts_okW hin e' F rs h⟩
    | _ => cases e
theorem puts_okW : ∀ {l : List Tg} {own : List Nat} {ds : List D} {σ σ' : List Sl} {σV : L2.St} {vs : List V} {Q : L2.St → Hp → Prop}, (∀ i ∈ tgsSlots l, i ∈ own) → puts l ds σ = some σ' → Fm C H0 ρ0 σ σV ρ g H → Reps C ρ H ds vs → (∀ σV', wipe σV' own = wipe σV own → Fm C H0 ρ0 σ' σV' ρ g H → Q σV' H) → gTs C.K l vs σV H Q
  | [], own, ds, σ, σ', σV, vs, Q, hin, e, F, r, h => by
    cases ds with
    | nil =>
      cases (Option.some.inj e : σ = σ')
      exact ⟨r, h _ rfl F⟩
    | cons _ _ => cases e
  | t :: l, own, ds, σ, σ', σV, vs, Q, hin, e, F, r, h => by
    cases ds with
    | nil => cases e
    | cons d ds =>
      obtain ⟨v, w, rfl, r1, r2⟩ := r
      have e' : (put t d σ).bind (puts l ds) = some σ' := e
      obtain ⟨σ1, e1, e2⟩ := Option.bind_eq_some_iff.mp e'
      exact ⟨v, w, rfl, put_okW (fun i hi => hin i (List.mem_append_left _ hi)) e1 F r1 fun σV1 l1 F1 => puts_okW (fun i hi => hin i (List.mem_append_right _ hi)) e2 F1 r2 fun σV2 l2 F2 => h σV2 (l2.trans l1) F2⟩
end
/-! ### an object that was not there at first is changed -/
theorem Stp.updF {T : List (Addr × Str)} {ρ ρ' : Rho} {H H' : Hp} {p : Addr} {o : HO} (s : Stp T ρ H ρ' H') (n : Fre T H p) : Stp T ρ H ρ' (upd H' p o) :=
  ⟨⟨fun b u e nr nt => by rw [upd_ne (n.ne e nt)]; exact s.ext.at_ b u e nr nt, fun b u e nr t ht => by
    have : b ≠ p := fun z => by
      subst z
      exact (n u e).2 ht
    rw [upd_ne this]
    exact s.ext.tbl b u e nr t ht⟩, s.pre, s.new⟩
theorem Stp.upd {T : List (Addr × Str)} {ρ ρ' : Rho} {H H' : Hp} {p : Addr} {o : HO} (s : Stp T ρ H ρ' H') (n : H p = none) : Stp T ρ H ρ' (upd H' p o) := s.updF (.of n)
theorem Sto.upd {T : List (Addr × Str)} {ρ : Rho} {g : G} {H : Hp} {p : Addr} {o u : HO} (s : Sto T ρ g H) (e : H p = some u) (n : ∀ kvs, u ≠ .dK kvs) (nc : ¬ isCd u := by exact fun z => z) : Sto T ρ g (L2.upd H p o) :=
  s.same (fun b z => upd_ne (fun q => tup_not s.rok e n (by rw [← q]; exact z))) fun b w h hc => by
    rw [upd_ne (fun q => by rw [q, e] at h; cases h; exact nc hc)]
    exact h
/-- free behind a run: free ahead of it -/
theorem Stp.fre {T : List (Addr × Str)} {ρ ρ1 : Rho} {H H1 : Hp} {p : Addr} {g1 : G} (s : Stp T ρ H ρ1 H1) (so : Sto T ρ1 g1 H1) (n : Fre T H1 p) : Fre T H p := by
  by_cases hr : inRho ρ p
  · obtain ⟨kvs, z⟩ := so.rok p (hr.mono s.pre)
    exact absurd (n _ z).1 (fun z => z)
  · exact s.ext.fre hr n
theorem keeps_upd {K : PySem.W.Frag} {H : Hp} {p : Addr} {o : HO} {vs : List V} (e : H p = some (.lst vs)) : Keeps K H (upd H p o) :=
  Keeps.mk' (fun a xs h => by rw [upd_ne (ne_of h e (fun z => by cases z))]; exact h) (fun a ob u h => by rw [upd_ne (ne_of h e (fun z => by cases z))]; exact h) fun a c d f h => by rw [upd_ne (ne_of h e (fun z => by cases z))]; exact h
theorem keeps_updD {K : PySem.W.Frag} {H : Hp} {p : Addr} {o u : HO} (e : H p = some u) (n1 : ∀ xs, u ≠ .tup xs) (n2 : ∀ ob w, u ≠ .frz ob w) (n3 : ∀ c d f, u ≠ .ins c d f) : Keeps K H (upd H p o) :=
  Keeps.mk' (fun a xs h => by rw [upd_ne (ne_of h e (fun z => n1 _ z.symm))]; exact h) (fun a ob w h => by rw [upd_ne (ne_of h e (fun z => n2 _ _ z.symm))]; exact h) fun a c d f h => by rw [upd_ne (ne_of h e (fun z => n3 _ _ _ z.symm))]; exact h
/-- a new list comes: it may be changed later -/
def liftN (C : Cn) (W : WX) (H0 : Hp) (ρ0 : Rho) (m : List Sl → M (List D)) : TE := fun σV H Q => ∃ σ ρ g, Fm C H0 ρ0 σ σV ρ g H ∧ ∃ r g', m σ g = some (r, g') ∧ match r with
  | .ok ds => ∀ p vs ρ' H', Fre C.tb H p → Stp C.tb ρ H ρ' H' → Sto C.tb ρ' g' H' → H' p = some (.lst vs) → Reps C ρ' H' ds vs → Q (.ref p) H'
  | .ex c => ∀ ρ' H', Fm C H0 ρ0 σ σV ρ' g' H' → W (.ref (He.ga C.K c)) none σV H'
/-- .. it is taken for good -/
theorem sE_fz {e : Expr} {m : List Sl → M (List D)} (h : PE X e (liftN C W H0 ρ0 m)) : PE X e (lift C W H0 ρ0 fun σ => M.bind (m σ) fun ds => M.pure (.lst ds)) := by
  refine PE.imp (PE.frz h) fun σV H Q h => ?_
  obtain ⟨σ, ρ, g, F, r, g', hm, hk⟩ := h
  rcases bind_some hm with ⟨c, h1, rfl⟩ | ⟨ds, g1, h1, h2⟩
  · exact ⟨σ, ρ, g, F, .ex c, g', h1, hk⟩
  · obtain ⟨rfl, rfl⟩ := pure_some h2
    refine ⟨σ, ρ, g, F, .ok ds, g', h1, fun p vs ρ' H' hp st so e rv => ⟨p, vs, rfl, e, fun o => ?_⟩⟩
    exact hk ρ' _ (F.step (st.updF hp) (so.upd e (fun _ z => by cases z))) (st.updF hp) _ ⟨p, vs, rfl, fz_at, rv.to (keeps_upd e) (List.prefix_refl _)⟩
theorem drop_cons {α : Type} : ∀ (l : List α) (i : Nat) (d : α), l[i]? = some d → l.drop i = d :: l.drop (i + 1)
  | [], i, d, h => by simp at h
  | x :: l, 0, d, h => by simp at h; subst h; rfl
  | x :: l, i + 1, d, h => by
    rw [List.drop_succ_cons, List.drop_succ_cons]
    exact drop_cons l i d (by simpa using h)
def W0 : WX := fun _ _ _ _ => False
/-- the turns of a comprehension -/
theorem comp_turns {tg : Tg} {own : List Nat} {test : List Sl → M Bool} {elt : List Sl → M D} {Q : VK} {ρ1 : Rho} {H1 : Hp} {g1 g' : G} {items ds : List D} {J : L2.It} {Dd : Addr} (hin : ∀ i ∈ tgSlots tg, i ∈ own)
    (F1 : Fm C H0 ρ0 σ σV ρ1 g1 H1) (hJ : Wk C ρ1 J items H1) (nD : H1 Dd = none) (hc : compL tg test elt (clear own σ) items g1 = some (.ok ds, g'))
    (hQ : ∀ ρ' H' vs, Stp C.tb ρ1 H1 ρ' H' → Sto C.tb ρ' g' H' → H' Dd = some (.lst vs) → Reps C ρ' H' ds vs → Q (.ref Dd) H') :
    ∃ Wv : Nat → Nat → Hp → Prop, (∃ m, Wv 0 m (upd H1 Dd (.lst []))) ∧ ∀ i m H, Wv i m H →
      (J.stop i H ∧ Q (.ref Dd) H) ∨ (J.go i H ∧ ∃ Nx : Hp → Prop, (∀ H', Nx H' → ∃ m', m' < m ∧ Wv (i + 1) m' H') ∧ ∀ x H', J.yld i H x H' → gT C.K tg x (wipe σV own) H' fun σ2 H2 => wipe σ2 own = wipe σV own ∧ liftT C W0 H0 ρ0 test σ2 H2 fun b H3 =>
        if b = true then lift C W0 H0 ρ0 elt σ2 H3 fun y H4 => ∃ acc, H4 Dd = some (.lst acc) ∧ acc.length < sizeLine ∧ Nx (upd H4 Dd (.lst (acc ++ [y]))) else Nx H3) := by
  have Fw : Fm C H0 ρ0 (clear own σ) (wipe σV own) ρ1 g1 H1 := F1.wipe own
  let St (i : Nat) (H : Hp) : Prop := ∃ ρi gi accD accV restD, Stp C.tb ρ1 H1 ρi H ∧ Sto C.tb ρi gi H ∧ H Dd = some (.lst accV) ∧ Reps C ρi H accD accV ∧ accD.length ≤ i ∧ compL tg test elt (clear own σ) (items.drop i) gi = some (.ok restD, g') ∧ accD ++ restD = ds
  refine ⟨fun i m H => m = items.length - i ∧ i ≤ items.length ∧ St i H, ⟨items.length, by simp, Nat.zero_le _, ρ1, g1, [], [], ds, (Stp.refl _ _).upd nD, F1.sto.grow (Grow.upd nD), upd_same, rfl, Nat.le_refl _, by simpa using hc, rfl⟩, ?_⟩
  rintro i m Hh ⟨rfl, hi, ρi, gi, accD, accV, restD, st, so, eD, ra, la, hr, ed⟩
  have hke : Keeps C.K H1 Hh := st.keeps F1.rok
  by_cases hlt : i < items.length
  · have hd : items[i]? = some items[i] := List.getElem?_eq_getElem hlt
    rw [drop_cons items i _ hd] at hr
    rcases bind_some hr with ⟨c, _, z⟩ | ⟨σ', g2, h1, h2⟩
    · cases z
    obtain ⟨σ'', e1, ez, eg⟩ := opt_some h1
    cases ez
    subst eg
    rcases bind_some h2 with ⟨c, _, z⟩ | ⟨t, g3, h3, h4⟩
    · cases z
    refine .inr ⟨hJ.go i Hh hke hlt, St (i + 1), fun H' s' => ⟨items.length - (i + 1), by omega, rfl, hlt, s'⟩, fun x H' y => ?_⟩
    obtain ⟨gr, rx⟩ := hJ.yld i Hh x H' _ hke hd y
    have Fi : Fm C H0 ρ0 (clear own σ) (wipe σV own) ρi g2 H' := Fw.step (st.trans (.of _ gr)) (so.grow gr)
    refine put_okW hin e1 Fi (rx ρi st.pre) fun σ2 hw F2 => ⟨hw.trans (wipe_wipe own own σV fun _ h => h), σ', ρi, g2, F2, .ok t, g3, h3, fun ρ3 H3 F3 s3 => ?_⟩
    have s13 : Stp C.tb ρ1 H1 ρ3 H3 := (st.trans (.of _ gr)).trans s3
    have nr : ¬ inRho ρi Dd := tup_not so.rok eD (fun _ z => by cases z)
    have eD3 : H3 Dd = some (.lst accV) := s3.ext.at_ Dd _ (gr _ _ eD) nr (fun z => z)
    have ra3 : Reps C ρ3 H3 accD accV := (ra.grow gr).to (s3.keeps (so.grow gr).rok) s3.pre
    cases t with
    | false =>
      show if false = true then _ else _
      rw [if_neg Bool.false_ne_true]
      exact ⟨ρ3, g3, accD, accV, restD, s13, F3.sto, eD3, ra3, by omega, h4, ed⟩
    | true =>
      show if true = true then _ else _
      rw [if_pos rfl]
      rcases bind_some h4 with ⟨c, _, z⟩ | ⟨xd, g4, h5, h6⟩
      · cases z
      rcases bind_some h6 with ⟨c, _, z⟩ | ⟨xs, g5, h7, h8⟩
      · cases z
      obtain ⟨ez, eg⟩ := pure_some h8
      cases ez
      subst eg
      refine ⟨σ', ρ3, g3, F3, .ok xd, g4, h5, fun ρ4 H4 F4 s4 v rv => ?_⟩
      have nr3 : ¬ inRho ρ3 Dd := tup_not F3.rok eD3 (fun _ z => by cases z)
      have eD4 : H4 Dd = some (.lst accV) := s4.ext.at_ Dd _ eD3 nr3 (fun z => z)
      have ra4 : Reps C ρ4 H4 accD accV := ra3.to (s4.keeps F3.rok) s4.pre
      refine ⟨accV, eD4, ?_, ρ4, g4, accD ++ [xd], accV ++ [v], xs, (s13.trans s4).upd nD, F4.sto.upd eD4 (fun _ z => by cases z), upd_same, (ra4.snoc rv).to (keeps_upd eD4) (List.prefix_refl _), ?_, h7, ?_⟩
      · have := ra4.len
        have := hJ.len
        omega
      · rw [List.length_append, List.length_singleton]; omega
      · rw [← ed, List.append_assoc]; rfl
  · have e : i = items.length := by omega
    subst e
    rw [List.drop_length] at hr
    obtain ⟨ez, rfl⟩ := pure_some hr
    cases ez
    rw [List.append_nil] at ed
    subst ed
    exact .inl ⟨hJ.stop Hh hke, hQ ρi Hh accV st so eD ra⟩
theorem noex_some {α : Type} {m : M α} {g g' : G} {r : R α} (h : M.noex m g = some (r, g')) : ∃ a, r = .ok a ∧ m g = some (.ok a, g') := by
  unfold M.noex at h
  cases e : m g with
  | none => rw [e] at h; cases h
  | some p =>
    obtain ⟨r1, g1⟩ := p
    rw [e] at h
    cases r1 with
    | ex c => cases h
    | ok a =>
      have h2 : some ((.ok a : R α), g1) = some (r, g') := h
      cases h2
      exact ⟨a, rfl, rfl⟩
def compM (mi : List Sl → M (List D)) (tg : Tg) (own : List Nat) (test : List Sl → M Bool) (elt : List Sl → M D) : List Sl → M (List D) := fun σ => M.bind (mi σ) fun items => M.noex (compL tg test elt (clear own σ) items)
theorem comp_read {mi : List Sl → M (List D)} {tg : Tg} {own : List Nat} {test : List Sl → M Bool} {elt : List Sl → M D} {Q : VK} (hin : ∀ i ∈ tgSlots tg, i ∈ own) (h : liftN C W H0 ρ0 (compM mi tg own test elt) σV H Q) :
    tLc (liftI C W H0 ρ0 mi) (gT C.K tg) (liftT C W0 H0 ρ0 test) (lift C W0 H0 ρ0 elt) own σV H Q := by
  obtain ⟨σ, ρ, g, F, r, g', hm, hk⟩ := h
  rcases bind_some hm with ⟨c, h1, rfl⟩ | ⟨items, g1, h1, h2⟩
  · exact ⟨σ, ρ, g, F, .ex c, g', h1, hk⟩
  · obtain ⟨ds, rfl, hc⟩ := noex_some h2
    refine ⟨σ, ρ, g, F, .ok items, g1, h1, fun ρ1 H1 F1 s1 J hJ Dd nD => ?_⟩
    refine comp_turns hin F1 hJ nD hc fun ρ' H' vs st so e rv => ?_
    have hn : Fre C.tb H Dd := s1.fre F1.sto (.of nD)
    exact hk Dd vs ρ' H' hn (s1.trans st) so e rv
end
end MC
namespace MC
open PySem PySem.Spec L2
def asL : D → M (List D)
  | .lst l => M.pure l
  | _ => M.fail
section
variable {C : Cn} {W : WX} {H0 : Hp} {ρ0 : Rho} {X : Cx} {σV : L2.St} {σ : List Sl} {ρ : Rho} {g : G} {H : Hp}
/-- a new list is laid at p -/
theorem new_at {ρ1 : Rho} {H1 : Hp} {g1 : G} {ds : List D} {vs : List V} {Q : VK} (F1 : Fm C H0 ρ0 σ σV ρ1 g1 H1) (s1 : Stp C.tb ρ H ρ1 H1) (rv : Reps C ρ1 H1 ds vs)
    (hk : ∀ p vs ρ' H', Fre C.tb H p → Stp C.tb ρ H ρ' H' → Sto C.tb ρ' g1 H' → H' p = some (.lst vs) → Reps C ρ' H' ds vs → Q (.ref p) H') : ∀ p, H1 p = none → Q (.ref p) (upd H1 p (.lst vs)) := fun p hp =>
  hk p vs ρ1 _ (s1.fre F1.sto (.of hp)) (s1.trans (.of _ (Grow.upd hp))) (F1.sto.grow (Grow.upd hp)) upd_same (rv.grow (Grow.upd hp))
theorem sN_lst {es : List Expr} {ms : List Sl → M (List D)} {pos : Pos} (h : PA X es (liftA C W H0 ρ0 ms)) (len : ∀ σ g ds g', ms σ g = some (.ok ds, g') → ds.length ≤ 1000) :
    PE X (.List es pos) (liftN C W H0 ρ0 fun σ => M.bind (M.bind (ms σ) fun ds => M.pure (.lst ds)) asL) := by
  refine PE.imp (pe_lst h) fun σV H Q h => ?_
  obtain ⟨σ, ρ, g, F, r, g', hm, hk⟩ := h
  dsimp only at hm
  rw [M.bind_assoc] at hm
  rcases bind_some hm with ⟨c, h1, rfl⟩ | ⟨ds, g1, h1, h2⟩
  · exact ⟨σ, ρ, g, F, .ex c, g', h1, hk⟩
  · obtain ⟨rfl, rfl⟩ := pure_some (show M.pure ds g1 = _ from h2)
    refine ⟨σ, ρ, g, F, .ok ds, g', h1, fun ρ1 H1 F1 s1 vs rvs => ⟨?_, new_at F1 s1 rvs hk⟩⟩
    rw [rvs.len, sizeLine_eq]
    have := len σ g ds g' h1
    omega
theorem sN_add {a b : Expr} {ma mb : List Sl → M D} {pos : Pos} (ha : PE X a (lift C W H0 ρ0 ma)) (hb : PE X b (lift C W H0 ρ0 mb)) :
    PE X (.BinOp a .Add b pos) (liftN C W H0 ρ0 fun σ => M.bind (M.bind (ma σ) fun x => M.bind (mb σ) fun y => M.opt (opD .add x y)) asL) := by
  refine PE.imp (pe_op op_catF ha hb) fun σV H Q h => ?_
  obtain ⟨σ, ρ, g, F, r, g', hm, hk⟩ := h
  dsimp only at hm
  rw [M.bind_assoc] at hm
  rcases bind_some hm with ⟨c, h1, rfl⟩ | ⟨x, g1, h1, h2⟩
  · exact ⟨σ, ρ, g, F, .ex c, g', h1, hk⟩
  refine ⟨σ, ρ, g, F, .ok x, g1, h1, fun ρ1 H1 F1 s1 v rv => ?_⟩
  rw [M.bind_assoc] at h2
  rcases bind_some h2 with ⟨c, h3, rfl⟩ | ⟨y, g2, h3, h4⟩
  · exact ⟨σ, ρ1, g1, F1, .ex c, g', h3, hk⟩
  refine ⟨σ, ρ1, g1, F1, .ok y, g2, h3, fun ρ2 H2 F2 s2 w rw' => ?_⟩
  rcases bind_some h4 with ⟨c, h5, _⟩ | ⟨z, g3, h5, h6⟩
  · obtain ⟨_, _, z, _⟩ := opt_some h5
    cases z
  obtain ⟨z', e, ez, rfl⟩ := opt_some h5
  cases ez
  have rv2 := rv.to (s2.keeps F1.rok) s2.pre
  cases z with
  | lst l =>
    obtain ⟨rfl, rfl⟩ := pure_some (show M.pure l _ = _ from h6)
    match x, y, e with
    | .lst la, .lst lb, e =>
      have e : (if la.length + lb.length ≤ sizeLine then some (D.lst (la ++ lb)) else none) = some (.lst l) := e
      split at e
      · rename_i hz
        cases e
        obtain ⟨p, vs, rfl, f1, r1⟩ := rv2
        obtain ⟨q, ws, rfl, f2, r2⟩ := rw'
        refine ⟨p, q, vs, ws, rfl, rfl, .inr f1, .inr f2, by rw [r1.len, r2.len]; exact hz, new_at F2 (s1.trans s2) (r1.append r2) hk⟩
      · cases e
    | .int _, .int _, e => cases e
    | .tup la, .tup lb, e =>
      have e : (if la.length + lb.length ≤ sizeLine then some (D.tup (la ++ lb)) else none) = some (.lst l) := e
      split at e <;> cases e
    | .str la, .str lb, e =>
      have e : (if la.length + lb.length ≤ sizeLine then some (D.str (la ++ lb)) else none) = some (.lst l) := e
      split at e <;> cases e
  | _ => cases h6
theorem sN_mul {a b : Expr} {ma mb : List Sl → M D} {pos : Pos} (ha : PE X a (lift C W H0 ρ0 ma)) (hb : PE X b (lift C W H0 ρ0 mb)) :
    PE X (.BinOp a .Mult b pos) (liftN C W H0 ρ0 fun σ => M.bind (M.bind (ma σ) fun x => M.bind (mb σ) fun y => M.opt (opD .mul x y)) asL) := by
  refine PE.imp (pe_op op_repF ha hb) fun σV H Q h => ?_
  obtain ⟨σ, ρ, g, F, r, g', hm, hk⟩ := h
  dsimp only at hm
  rw [M.bind_assoc] at hm
  rcases bind_some hm with ⟨c, h1, rfl⟩ | ⟨x, g1, h1, h2⟩
  · exact ⟨σ, ρ, g, F, .ex c, g', h1, hk⟩
  refine ⟨σ, ρ, g, F, .ok x, g1, h1, fun ρ1 H1 F1 s1 v rv => ?_⟩
  rw [M.bind_assoc] at h2
  rcases bind_some h2 with ⟨c, h3, rfl⟩ | ⟨y, g2, h3, h4⟩
  · exact ⟨σ, ρ1, g1, F1, .ex c, g', h3, hk⟩
  refine ⟨σ, ρ1, g1, F1, .ok y, g2, h3, fun ρ2 H2 F2 s2 w rw' => ?_⟩
  rcases bind_some h4 with ⟨c, h5, _⟩ | ⟨z, g3, h5, h6⟩
  · obtain ⟨_, _, z, _⟩ := opt_some h5
    cases z
  obtain ⟨z', e, ez, rfl⟩ := opt_some h5
  cases ez
  have rv2 := rv.to (s2.keeps F1.rok) s2.pre
  cases z with
  | lst l =>
    obtain ⟨rfl, rfl⟩ := pure_some (show M.pure l _ = _ from h6)
    match x, y, e with
    | .lst la, .int k, e =>
      have e : (if -1000 ≤ k ∧ k ≤ 1000 ∧ la.length ≤ 1000 then some (D.lst (List.replicate k.toNat la).flatten) else none) = some (.lst l) := e
      split at e
      · rename_i hz
        cases e
        obtain ⟨p, vs, rfl, f1, r1⟩ := rv2
        refine ⟨p, k, vs, rfl, rw', .inr f1, hz.1, hz.2.1, by rw [r1.len]; exact hz.2.2, new_at F2 (s1.trans s2) (r1.flat _) hk⟩
      · cases e
    | .tup la, .int k, e =>
      have e : (if -1000 ≤ k ∧ k ≤ 1000 ∧ la.length ≤ 1000 then some (D.tup (List.replicate k.toNat la).flatten) else none) = some (.lst l) := e
      split at e <;> cases e
    | .int i, .int j, e =>
      have e : (if (-lim < i ∧ i < lim) ∨ (-lim < j ∧ j < lim) then some (D.int (i * j)) else none) = some (.lst l) := e
      split at e <;> cases e
  | _ => cases h6
theorem sN_list {x : Expr} {ms : List Sl → M (List D)} {p pos : Pos} (hK : X.K = C.K) (ok : okE x = true) (hg : Gl X "list") (hm : X.mg "list" = none) (ha : PA X [x] (liftA C W H0 ρ0 ms)) :
    PE X (.Call (.Name "list" p) [x] [] pos) (liftN C W H0 ρ0 fun σ => M.bind (M.bind (ms σ) fun ds => M.opt (prD .list ds)) asL) := by
  refine PE.imp (pe_callTy call_list_of hg hm (by decide +kernel) ha (by decide) (by decide) (star_of ok _ _) rfl) fun σV H Q h => ?_
  obtain ⟨σ, ρ, g, F, r, g', hm, hk⟩ := h
  dsimp only at hm
  rw [M.bind_assoc] at hm
  rcases bind_some hm with ⟨c, h1, rfl⟩ | ⟨ds, g1, h1, h2⟩
  · exact ⟨σ, ρ, g, F, .ex c, g', h1, hk⟩
  refine ⟨σ, ρ, g, F, .ok ds, g1, h1, fun ρ1 H1 F1 s1 vs rv => ?_⟩
  rcases bind_some h2 with ⟨c, h5, _⟩ | ⟨z, g3, h5, h6⟩
  · obtain ⟨_, _, z, _⟩ := opt_some h5
    cases z
  obtain ⟨z', e, ez, rfl⟩ := opt_some h5
  cases ez
  cases z with
  | lst l =>
    obtain ⟨rfl, rfl⟩ := pure_some (show M.pure l _ = _ from h6)
    match ds, e with
    | [.lst la], e =>
      cases (Option.some.inj e : D.lst la = .lst l)
      obtain ⟨v, rfl, p, vs, rfl, f1, r1⟩ := reps1 rv
      exact ⟨p, vs, rfl, .inl (FzL.sq f1), new_at F1 s1 r1 hk⟩
    | [.tup la], e =>
      cases (Option.some.inj e : D.lst la = .lst l)
      obtain ⟨v, rfl, p, vs, rfl, f1, r1⟩ := reps1 rv
      rw [hK]
      exact ⟨p, vs, rfl, .inr (SqT.of f1), new_at F1 s1 r1 hk⟩
  | _ => cases h6
/-! ### comprehensions -/
theorem PG.eq {tg : Expr} {t t' : TG} (h : PG X tg t) (e : t = t') : PG X tg t' := e ▸ h
section
variable {elt tge iter : Expr} {ifs : List Expr} {scope : Scope} {pos : Pos} {mi : List Sl → M (List D)} {tg : Tg} {own : List (Str × Nat)} {test : List Sl → M Bool} {me : List Sl → M D}
theorem sN_comp (hc : X.calm = true) (hN : X.N.Nodup) (hK : X.K = C.K) (ok : BlkOk X.N X.env.scope scope own) (oki : okE iter = true) (hin : ∀ i ∈ tgSlots tg, i ∈ own.map (·.2)) (hi : PI X tge iter (liftI C W H0 ρ0 mi))
    (hg : ∀ (s : Shared) (H : Hp) (Cc : Addr) (cl : List (Str × Addr)) (fp : List Addr), PG (X.blk s H scope (compEnvC scope cl Cc X.env) fp) tge (gT C.K tg))
    (ht : ∀ (s : Shared) (H : Hp) (Cc : Addr) (cl : List (Str × Addr)) (fp : List Addr), PTs (X.blk s H scope (compEnvC scope cl Cc X.env) fp) ifs (liftT C W0 H0 ρ0 test))
    (he : ∀ (s : Shared) (H : Hp) (Cc : Addr) (cl : List (Str × Addr)) (fp : List Addr), PE (X.blk s H scope (compEnvC scope cl Cc X.env) fp) elt (lift C W0 H0 ρ0 me)) :
    PE X (.ListComp elt [⟨tge, iter, ifs, 0⟩] scope pos) (liftN C W H0 ρ0 (compM mi tg (own.map (·.2)) test me)) :=
  PE.imp (pe_lc hc hN hi ok hg ht he (folded_of oki X.env)) fun σV H Q h => comp_read hin h
end
theorem liftN_eq {m m' : List Sl → M (List D)} {e : Expr} (h : PE X e (liftN C W H0 ρ0 m)) (q : ∀ σ, m σ = m' σ) : PE X e (liftN C W H0 ρ0 m') := by
  rw [show m' = m from (funext fun σ => (q σ).symm)]
  exact h
theorem lift_eq {m m' : List Sl → M D} {e : Expr} (h : PE X e (lift C W H0 ρ0 m)) (q : ∀ σ, m σ = m' σ) : PE X e (lift C W H0 ρ0 m') := by
  rw [show m' = m from (funext fun σ => (q σ).symm)]
  exact h
theorem sYes : PTs X [] (liftT C W H0 ρ0 fun _ => M.pure true) := by
  refine ⟨fun pins s σV H Q I h => pts_nil.run pins s σV H Q I ?_⟩
  obtain ⟨σ, ρ, g, h⟩ := h
  obtain ⟨F, hk⟩ := At.pure h
  exact hk ρ H F (.refl _ _)
/-! ### a list of this frame is looked at -/
theorem Fm.getL (F : Fm C H0 ρ0 σ σV ρ g H) {i : Nat} {l : List D} (h : slot σ i = .ml l) : ∃ a vs, σV[i]? = some (some (.ref a)) ∧ H a = some (.lst vs) ∧ Reps C ρ H l vs ∧ σ[i]? = some (.ml l) := by
  unfold slot at h
  rw [List.getD_eq_getElem?_getD] at h
  cases q : σ[i]? with
  | none => rw [q] at h; cases h
  | some s =>
    rw [q] at h
    have h : s = .ml l := h
    subst h
    have hi : i < σV.length := by
      rw [← F.len]
      exact (List.getElem?_eq_some_iff.mp q).1
    obtain ⟨a, vs, e, h1, r⟩ := F.rep i _ σV[i] q (List.getElem?_eq_getElem hi)
    exact ⟨a, vs, by rw [List.getElem?_eq_getElem hi, e], h1, r, rfl⟩
/-! ### keywords -/
end
end MC
namespace MC
open PySem PySem.Spec L2
section
variable {C : Cn} {W : WX} {H0 : Hp} {ρ0 : Rho} {X : Cx} {σV : L2.St} {σ : List Sl} {ρ ρ' : Rho} {g g' : G} {H H' : Hp}
theorem Fm.getD (F : Fm C H0 ρ0 σ σV ρ g H) {i : Nat} {t : Bool} {ks ds : List D} (h : slot σ i = .md t ks ds) : ∃ a u, σV[i]? = some (some (.ref a)) ∧ H a = some u ∧ DcR C ρ H t ks ds u ∧ σ[i]? = some (.md t ks ds) := by
  unfold slot at h
  rw [List.getD_eq_getElem?_getD] at h
  cases q : σ[i]? with
  | none => rw [q] at h; cases h
  | some s =>
    rw [q] at h
    have h : s = .md t ks ds := h
    subst h
    have hi : i < σV.length := by
      rw [← F.len]
      exact (List.getElem?_eq_some_iff.mp q).1
    obtain ⟨a, u, e, h1, r⟩ := F.rep i _ σV[i] q (List.getElem?_eq_getElem hi)
    exact ⟨a, u, by rw [List.getElem?_eq_getElem hi, e], h1, r, rfl⟩
theorem Fm.getDI (F : Fm C H0 ρ0 σ σV ρ g H) {i : Nat} {a : Addr} {t : Bool} {ks ds : List D} (hs : σ[i]? = some (.md t ks ds)) (hv : σV[i]? = some (some (.ref a))) : ∃ u, H a = some u ∧ DcR C ρ H t ks ds u := by
  obtain ⟨b, u, e, h1, r⟩ := F.rep i _ _ hs hv
  cases e
  exact ⟨u, h1, r⟩
theorem getL_run {i : Nat} {x : Str} {pos : Pos} (hN : X.N[i]? = some x) (hv : Vis X.env.scope x) (hd : (x == ("__debug__" : Str)) = false) (hcd : (x == ("__classdict__" : Str)) = false) : PE X (.Name x pos) (fun σV H Q => ∃ v, σV[i]? = some (some v) ∧ Q v H) := PE.imp (pe_var hN hv hd hcd) fun σV H Q h => h
theorem Fm.getI (F : Fm C H0 ρ0 σ σV ρ g H) {i : Nat} {a : Addr} {l : List D} (hs : σ[i]? = some (.ml l)) (hv : σV[i]? = some (some (.ref a))) : ∃ vs, H a = some (.lst vs) ∧ Reps C ρ H l vs := by
  obtain ⟨b, vs, e, h1, r⟩ := F.rep i _ _ hs hv
  cases e
  exact ⟨vs, h1, r⟩
theorem seqS_some {i : Nat} {r : R D} (h : seqS σ i g = some (r, g')) : g' = g ∧ ((∃ l, slot σ i = .ml l ∧ r = .ok (.lst l)) ∨ ∃ t ks vs, slot σ i = .md t ks vs ∧ r = .ok (.dct t ks vs)) := by
  unfold seqS at h
  cases e : slot σ i with
  | ml l =>
    rw [e] at h
    obtain ⟨rfl, rfl⟩ := pure_some h
    exact ⟨rfl, .inl ⟨l, rfl, rfl⟩⟩
  | md t ks vs =>
    rw [e] at h
    obtain ⟨rfl, rfl⟩ := pure_some h
    exact ⟨rfl, .inr ⟨t, ks, vs, rfl, rfl⟩⟩
  | _ => rw [e] at h; cases h
theorem mdS_some {i : Nat} {r : R D} (h : mdS σ i g = some (r, g')) : g' = g ∧ ∃ t ks vs, slot σ i = .md t ks vs ∧ r = .ok (.dct t ks vs) := by
  unfold mdS at h
  cases e : slot σ i with
  | md t ks vs =>
    rw [e] at h
    obtain ⟨rfl, rfl⟩ := pure_some h
    exact ⟨rfl, t, ks, vs, rfl, rfl⟩
  | _ => rw [e] at h; cases h
abbrev tVar (i : Nat) : TE := fun σV H Q => ∃ v, σV[i]? = some (some v) ∧ Q v H
/-- x[e], x a changing list or dict -/
theorem sE_at {x : Str} {i : Nat} {b : Expr} {mb : List Sl → M D} {px pos : Pos} (hu : X.A.units + 1 < cLine) (hK : X.K = C.K) (hN : X.N[i]? = some x) (hv : Vis X.env.scope x) (hd : (x == ("__debug__" : Str)) = false) (hcd : (x == ("__classdict__" : Str)) = false) (ok : okE b = true) (hb : PE X b (lift C W H0 ρ0 mb)) :
    PE X (.Subscript (.Name x px) b pos) (lift C W H0 ρ0 fun σ => M.bind (seqS σ i) fun _ => M.bind (mb σ) fun k => M.bind (seqS σ i) fun x => M.opt (ixOf x k)) := by
  refine PE.imp (pe_ix (ix_or ix_seq (ix_dict hu)) (getL_run hN hv hd hcd) hb (plainIx_of ok)) fun σV H Q h => ?_
  obtain ⟨σ, ρ, g, Fr, r, g', hm, hq⟩ := h
  rcases bind_some hm with ⟨c, h1, _⟩ | ⟨x0, g1, h1, h2⟩
  · obtain ⟨_, ⟨_, _, z⟩ | ⟨_, _, _, _, z⟩⟩ := seqS_some h1 <;> cases z
  obtain ⟨eg, hs⟩ := seqS_some h1
  subst eg
  have ha : ∃ a, σV[i]? = some (some (.ref a)) := by
    rcases hs with ⟨l, e, _⟩ | ⟨t, ks, vs, e, _⟩
    · obtain ⟨a, _, h, _⟩ := Fr.getL e
      exact ⟨a, h⟩
    · obtain ⟨a, _, h, _⟩ := Fr.getD e
      exact ⟨a, h⟩
  obtain ⟨a, ha⟩ := ha
  refine ⟨.ref a, ha, ?_⟩
  rcases bind_some h2 with ⟨c, h3, rfl⟩ | ⟨k, g2, h3, h4⟩
  · exact ⟨σ, ρ, g1, Fr, .ex c, g', h3, hq⟩
  refine ⟨σ, ρ, g1, Fr, .ok k, g2, h3, fun ρ1 H1 F1 s1 kv rk => ?_⟩
  rcases bind_some h4 with ⟨c, h5, _⟩ | ⟨x1, g3, h5, h6⟩
  · obtain ⟨_, ⟨_, _, z⟩ | ⟨_, _, _, _, z⟩⟩ := seqS_some h5 <;> cases z
  obtain ⟨eg, hs⟩ := seqS_some h5
  subst eg
  obtain ⟨d, e, ez, eg⟩ := opt_some h6
  subst ez eg
  rw [hK]
  rcases hs with ⟨l, el, ex⟩ | ⟨t, ks, vs, el, ex⟩
  · cases ex
    obtain ⟨a', ws, h7, h8, r8, _⟩ := F1.getL el
    rw [ha] at h7
    cases h7
    cases k with
    | int n =>
      obtain ⟨v, e1, e2⟩ := atI_rep r8 (show atI l n = some d from e)
      exact .inl (.inl ⟨a, ws, n, v, rfl, rk, SqL.of h8, e1, hq ρ1 H1 F1 s1 v e2⟩)
    | _ => cases e
  · cases ex
    obtain ⟨a', u, h7, h8, dc, _⟩ := F1.getD el
    rw [ha] at h7
    cases h7
    have e : (dLook t ks vs k).join = some d := by cases k <;> exact e
    have e : dLook t ks vs k = some (some d) := by
      cases z : dLook t ks vs k with
      | none => rw [z] at e; cases e
      | some o => rw [z] at e; cases (show o = some d from e); rfl
    obtain ⟨r', g', w, rfl, f⟩ := look_get (.inl h8) dc rk e
    exact .inr ⟨a, w, rfl, g', hq ρ1 H1 F1 s1 w f⟩
/-- e in x, e not in x, x a changing dict -/
theorem in_read {i : Nat} {neg : Bool} {me : List Sl → M D} {σV : L2.St} {H : Hp} {Q : VK} (h : lift C W H0 ρ0 (fun σ => M.bind (me σ) fun k => M.bind (mdS σ i) fun x => M.opt ((memD k x).map fun b => .bl (b != neg))) σV H Q) :
    tOp (fun x y H Q => ∃ a o, y = .ref a ∧ DGet H a x o ∧ Q (.bl (o.isSome != neg)) H) (lift C W H0 ρ0 me) (tVar i) σV H Q := by
  obtain ⟨σ, ρ, g, Fr, r, g', hm, hq⟩ := h
  rcases bind_some hm with ⟨c, h1, rfl⟩ | ⟨k, g1, h1, h2⟩
  · exact ⟨σ, ρ, g, Fr, .ex c, g', h1, hq⟩
  refine ⟨σ, ρ, g, Fr, .ok k, g1, h1, fun ρ1 H1 F1 s1 kv rk => ?_⟩
  rcases bind_some h2 with ⟨c, h3, _⟩ | ⟨x1, g3, h3, h4⟩
  · obtain ⟨_, _, _, _, _, z⟩ := mdS_some h3
    cases z
  obtain ⟨eg, t, ks, vs, el, ex⟩ := mdS_some h3
  cases ex
  subst eg
  obtain ⟨d, e, ez, eg⟩ := opt_some h4
  subst ez eg
  obtain ⟨b, e1, rfl⟩ := Option.map_eq_some_iff.mp e
  obtain ⟨o, e2, rfl⟩ := Option.map_eq_some_iff.mp (show (dLook t ks vs k).map Option.isSome = some b from e1)
  obtain ⟨a, u, h7, h8, dc, _⟩ := F1.getD el
  obtain ⟨r', g', f⟩ := look_get (.inl h8) dc rk e2
  refine ⟨.ref a, h7, a, r', rfl, g', ?_⟩
  rw [f.isSome]
  exact hq ρ1 H1 F1 s1 _ rfl
theorem op_dInN (hu : X.A.units + 65 < cLine) {neg : Bool} {op : CmpOp} (ho : op = if neg then .NotIn else .In) : OpR X (compareOp op) (fun x y H Q => ∃ a o, y = .ref a ∧ DGet H a x o ∧ Q (.bl (o.isSome != neg)) H) := by
  subst ho
  cases neg with
  | false => exact OpR.imp (op_dIn hu) fun x y H Q ⟨a, o, e, g, q⟩ => ⟨a, o, e, g, by cases h : o.isSome <;> rw [h] at q <;> exact q⟩
  | true => exact OpR.imp (op_dNotIn hu) fun x y H Q ⟨a, o, e, g, q⟩ => ⟨a, o, e, g, by cases h : o.isSome <;> rw [h] at q <;> exact q⟩
theorem sE_in {x : Str} {i : Nat} {neg : Bool} {op : CmpOp} {e : Expr} {me : List Sl → M D} {px pos : Pos} (hu : X.A.units + 65 < cLine) (ho : op = if neg then .NotIn else .In) (hN : X.N[i]? = some x) (hv : Vis X.env.scope x) (hd : (x == ("__debug__" : Str)) = false) (hcd : (x == ("__classdict__" : Str)) = false) (he : PE X e (lift C W H0 ρ0 me)) :
    PE X (.Compare e [op] [.Name x px] pos) (lift C W H0 ρ0 fun σ => M.bind (me σ) fun k => M.bind (mdS σ i) fun x => M.opt ((memD k x).map fun b => .bl (b != neg))) :=
  PE.imp (pe_cmpR (op_dInN hu ho) he (getL_run hN hv hd hcd) (behind_of rfl op)) fun σV H Q h => in_read h
theorem sT_in {x : Str} {i : Nat} {neg : Bool} {op : CmpOp} {e : Expr} {me : List Sl → M D} {px pos : Pos} (hu : X.A.units + 65 < cLine) (ho : op = if neg then .NotIn else .In) (hN : X.N[i]? = some x) (hv : Vis X.env.scope x) (hd : (x == ("__debug__" : Str)) = false) (hcd : (x == ("__classdict__" : Str)) = false) (he : PE X e (lift C W H0 ρ0 me)) :
    PT X (.Compare e [op] [.Name x px] pos) (liftT C W H0 ρ0 (tru fun σ => M.bind (me σ) fun k => M.bind (mdS σ i) fun x => M.opt ((memD k x).map fun b => .bl (b != neg)))) := by
  refine PT.imp (pt_cmpR (op_dInN hu ho) he (getL_run hN hv hd hcd) (behind_of rfl op)) fun σV H Q h => ?_
  have h2 : lift C W H0 ρ0 (fun σ => M.bind (me σ) fun k => M.bind (mdS σ i) fun x => M.opt ((memD k x).map fun b => .bl (b != neg))) σV H (fun v H1 => ∃ t, v = .bl t ∧ Q t H1) := by
    obtain ⟨σ, ρ, g, F, r, g', hm, hk⟩ := h
    refine ⟨σ, ρ, g, F, ?_⟩
    rcases bind_some hm with ⟨c, h1, rfl⟩ | ⟨d, g1, h1, h2⟩
    · exact ⟨.ex c, g', h1, hk⟩
    · obtain ⟨t, e, ez, eg⟩ := opt_some h2
      subst ez eg
      refine ⟨.ok d, _, h1, fun ρ' H' F' s' v rv => ?_⟩
      have : ∃ t', d = .bl t' := by
        rcases bind_some h1 with ⟨c, _, z⟩ | ⟨k, g2, _, h3⟩
        · cases z
        rcases bind_some h3 with ⟨c, _, z⟩ | ⟨k', g3, _, h4⟩
        · cases z
        obtain ⟨d', e', ez', _⟩ := opt_some h4
        cases ez'
        obtain ⟨b, _, rfl⟩ := Option.map_eq_some_iff.mp e'
        exact ⟨_, rfl⟩
      obtain ⟨t', rfl⟩ := this
      have e : t' = t := Option.some.inj e
      subst e
      exact ⟨t', rv, hk ρ' H' F' s'⟩
  exact in_read h2
end
end MC
namespace MC
open PySem PySem.Spec L2
/-! ### the text against the small text -/
/-- where we stand: names of the slots, scope, the names whose cells are made here, the defs below n may be called -/
structure Gam where
  N : List Str
  sc : Scope
  fn : Str → Bool
  n : Nat
  lam : Bool := false
def visB (sc : Scope) (x : Str) : Bool := match sc.names.lookup x with
  | some .local => true
  | some .cell => true
  | some .free => true
  | _ => false
theorem vis_of {sc : Scope} {x : Str} (h : visB sc x = true) : Vis sc x := by
  unfold visB at h
  unfold Vis
  split at h <;> simp_all
def glB (sc : Scope) (x : Str) : Bool := match sc.names.lookup x with
  | some .globalImplicit => true
  | _ => false
theorem gl_of {sc : Scope} {x : Str} (h : glB sc x = true) : sc.names.lookup x = some .globalImplicit := by
  unfold glB at h
  split at h <;> simp_all
def locB (Γ : Gam) (x : Str) : Bool := match Γ.sc.names.lookup x with
  | some .local => true
  | some .cell => Γ.fn x
  | _ => false
def cstB : D → Const → Bool
  | .non, .none => true
  | .bl b, .bool c => b == c
  | .int i, .int j => decide (i = j)
  | .str x, .str y => decide (x = y)
  | _, _ => false
def binB : Op2 → Operator → Bool
  | .add, .Add => true
  | .sub, .Sub => true
  | .mul, .Mult => true
  | .fdiv, .FloorDiv => true
  | .mod, .Mod => true
  | .pow, .Pow => true
  | _, _ => false
theorem bin_of {o : Op2} {op : Operator} (h : binB o op = true) : opSem o = binaryOp op := by
  cases o <;> cases op <;> first | rfl | cases h
def cmpB : Op2 → CmpOp → Bool
  | .eq, .Eq => true
  | .ne, .NotEq => true
  | .lt, .Lt => true
  | .le, .LtE => true
  | .gt, .Gt => true
  | .ge, .GtE => true
  | .mem, .In => true
  | .nmem, .NotIn => true
  | .isN, .Is => true
  | .notN, .IsNot => true
  | .isB, .Is => true
  | _, _ => false
theorem cmp_of {o : Op2} {op : CmpOp} (h : cmpB o op = true) : opSem o = compareOp op := by
  cases o <;> cases op <;> first | rfl | cases h
theorem cmp_bl {o : Op2} {op : CmpOp} (h : cmpB o op = true) (x y d : D) (e : opD o x y = some d) : ∃ t, d = .bl t := by
  have r : (∃ t, d = .bl t) ∨ opD o x y = none ∨ cmpB o op = false := by
    unfold opD at e
    split at e <;> first
      | (right; right; cases op <;> rfl)
      | (split at e <;> first | exact .inl ⟨_, (Option.some.inj e).symm⟩ | cases e)
      | exact .inl ⟨_, (Option.some.inj e).symm⟩
      | (obtain ⟨c, _, z⟩ := Option.map_eq_some_iff.mp e; exact .inl ⟨_, z.symm⟩)
      | cases e
  rcases r with r | r | r
  · exact r
  · rw [e] at r; cases r
  · rw [h] at r; cases r
/-- a test that we can read -/
def okT : Expr → Bool
  | .IfExp _ _ _ _ => false
  | .UnaryOp .USub _ _ => false
  | _ => true
def prN : Pr → Str
  | .len => "len"
  | .all => "all"
  | .any => "any"
  | .sum => "sum"
  | .max => "max"
  | .min => "min"
  | .sorted => "sorted"
  | .tuple => "tuple"
  | .list => "list"
  | .dictK => "dict"
  | .dictT => "dict"
def tyN : Ty → Str
  | .int => "int"
  | .bool => "bool"
  | .tuple => "tuple"
  | .str => "str"
def ownOf (N : List Str) (own : List Nat) : List (Str × Nat) := own.map fun i => (N.getD i "", i)
theorem ownOf_ix (N : List Str) : ∀ own : List Nat, (ownOf N own).map (·.2) = own := fun own => by
  unfold ownOf
  rw [List.map_map]
  exact (List.map_congr_left (fun _ _ => rfl)).trans (List.map_id _)
/-- within a comprehension -/
def Gam.blk (Γ : Gam) (scope : Scope) : Gam := { Γ with sc := relS scope Γ.sc, fn := fun x => scope.names.lookup x == some .cell, lam := false }
/-- within a lambda -/
def Gam.lm (Γ : Gam) (scope : Scope) : Gam := ⟨Γ.N, scope, fun _ => false, Γ.n - 2, false⟩
def noArg : Arguments → Bool
  | ⟨[], [], none, [], [], none, []⟩ => true
  | _ => false
mutual
def chkG (Γ : Gam) : Tg → Expr → Bool
  | .n i, ex => match ex with
    | .Name x _ => decide (Γ.N[i]? = some x) && locB Γ x
    | _ => false
  | .t l, ex => match ex with
    | .Tuple es _ _ => chkGs Γ l es
    | _ => false
def chkGs (Γ : Gam) : List Tg → List Expr → Bool
  | [], es => match es with
    | [] => true
    | _ => false
  | t :: l, es => match es with
    | e :: r => okE e && chkG Γ t e && chkGs Γ l r
    | _ => false
end
variable (T : Tab)
mutual
def chkE (Γ : Gam) : E → Expr → Bool
  | .var i, ex => match ex with
    | .Name x _ => decide (Γ.N[i]? = some x) && visB Γ.sc x && !(x == ("__debug__" : Str)) && !(x == ("__classdict__" : Str))
    | _ => false
  | .cst d, ex => match ex with
    | .Constant c _ _ => cstB d c
    | _ => false
  | .con x i, ex => match ex with
    | .Name y _ => decide (x = y) && glB Γ.sc x && T.cn.contains (x, i) && !(x == ("__debug__" : Str))
    | _ => false
  | .tup es, ex => match ex with
    | .Tuple xs _ _ => chkEs Γ es xs && decide (xs.length ≤ 1000)
    | _ => false
  | .lst es, ex => match ex with
    | .List xs _ => chkEs Γ es xs && decide (xs.length ≤ 1000)
    | _ => false
  | .op o a b, ex => match ex with
    | .BinOp x op y _ => binB o op && chkE Γ a x && chkE Γ b y
    | .Compare x [op] [y] _ => cmpB o op && okE y && chkE Γ a x && chkE Γ b y
    | _ => false
  | .chn o o' a b c, ex => match ex with
    | .Compare x [op, op'] [y, z] _ => cmpB o op && cmpB o' op' && okE z && chkE Γ a x && chkE Γ b y && chkE Γ c z
    | _ => false
  | .and es, ex => match ex with
    | .BoolOp .And xs _ => chkB Γ es xs
    | _ => false
  | .or es, ex => match ex with
    | .BoolOp .Or xs _ => chkB Γ es xs
    | _ => false
  | .not e, ex => match ex with
    | .UnaryOp .Not x _ => okT x && chkE Γ e x
    | _ => false
  | .neg e, ex => match ex with
    | .UnaryOp .USub x _ => chkE Γ e x
    | _ => false
  | .ife c a b, ex => match ex with
    | .IfExp x y z _ => okT x && chkE Γ c x && chkE Γ a y && chkE Γ b z
    | _ => false
  | .idx a b, ex => match ex with
    | .Subscript x y _ => okE y && chkE Γ a x && chkE Γ b y
    | _ => false
  | .slc a lo hi, ex => match ex with
    | .Subscript x (.Slice y z none _) _ => chkE Γ a x && chkO Γ lo y && chkO Γ hi z
    | _ => false
  | .call f es, ex => match ex with
    | .Call (.Name x _) xs [] _ => decide (T.nm f = x) && decide (f < Γ.n) && decide (T.ar f = xs.length) && glB Γ.sc x && !(x == ("__debug__" : Str)) && xs.all okE && chkEs Γ es xs && T.us.contains f
    | _ => false
  | .callk f es ks perm, ex => match ex with
    | .Call (.Name x _) xs kws _ => decide (T.nm f = x) && decide (f < Γ.n) && T.kw.contains (f, xs.length, ks.map (·.1), perm) && decide (perm.length = T.ar f) && glB Γ.sc x && !(x == ("__debug__" : Str)) && xs.all okE && chkEs Γ es xs && chkK Γ ks kws && T.us.contains f
    | _ => false
  | .prim p es, ex => match ex with
    | .Call (.Name x _) xs [] _ => decide (prN p = x) && T.bl.contains x && glB Γ.sc x && !xs.isEmpty && xs.all okE && chkEs Γ es xs
    | _ => false
  | .isi e t, ex => match ex with
    | .Call (.Name x _) [y, .Name z _] [] _ => decide (x = "isinstance") && decide (tyN t = z) && T.bl.contains x && T.bl.contains z && glB Γ.sc x && glB Γ.sc z && okE y && chkE Γ e y
    | _ => false
  | .comp elt tg own it cs, ex => match ex with
    | .ListComp x [⟨tge, iter, ifs, 0⟩] scope _ => blkC Γ.N Γ.sc scope (ownOf Γ.N own) && okE iter && (tgSlots tg).all (own.contains ·) && chkI Γ it tge iter && chkG (Γ.blk scope) tg tge && chkC (Γ.blk scope) cs ifs && chkE (Γ.blk scope) elt x
    | _ => false
  | .at_ i e, ex => match ex with
    | .Subscript (.Name x _) y _ => decide (Γ.N[i]? = some x) && visB Γ.sc x && !(x == ("__debug__" : Str)) && !(x == ("__classdict__" : Str)) && okE y && chkE Γ e y
    | _ => false
  | .in_ neg e i, ex => match ex with
    | .Compare y [op] [.Name x _] _ => cmpB (if neg then .nmem else .mem) op && decide (Γ.N[i]? = some x) && visB Γ.sc x && !(x == ("__debug__" : Str)) && !(x == ("__classdict__" : Str)) && chkE Γ e y
    | _ => false
  | .get a b, ex => match ex with
    | .Call (.Attribute x at_ pa) [y] [] pc => decide (at_ = "get") && baseB x && okE y && (pa.endLine == pc.line) && chkE Γ a x && chkE Γ b y
    | _ => false
  | .get3 a b c, ex => match ex with
    | .Call (.Attribute x at_ pa) [y, z] [] pc => decide (at_ = "get") && baseB x && okE y && okE z && (pa.endLine == pc.line) && chkE Γ a x && chkE Γ b y && chkE Γ c z
    | _ => false
  | .fld c a f, ex => match ex with
    | .Attribute x g _ => decide (g = f) && T.fl.contains (c, f) && baseB x && chkE Γ a x
    | _ => false
  | .make f es, ex => false
  | .meth f c m a es, ex => false
  | .maxv a, ex => false
  | .rev a, ex => false
  | .rngl t es, ex => false
  | .isx e c ds, ex => match ex with
    | .Call (.Name x _) [y, .Name z _] [] _ => decide (x = "isinstance") && decide (z = c) && T.bl.contains x && T.xs.contains (c, ds) && glB Γ.sc x && glB Γ.sc z && okE y && !decide (z = "__name__") && !(z == ("__debug__" : Str)) && chkE Γ e y
    | _ => false
  | .res e, ex => match ex with
    | .Call (.Name x _) [.Lambda params body scope _] [] _ => decide (x = "_law_result") && T.rs && glB Γ.sc x && Γ.lam && decide (2 ≤ Γ.n) && noArg params && LamX.lamSB Γ.sc scope && chkE (Γ.lm scope) e body
    | _ => false
def chkEs (Γ : Gam) : List E → List Expr → Bool
  | [], xs => match xs with
    | [] => true
    | _ => false
  | e :: es, xs => match xs with
    | x :: r => okE x && chkE Γ e x && chkEs Γ es r
    | _ => false
/-- the parts of and, or -/
def chkB (Γ : Gam) : List E → List Expr → Bool
  | [], _ => false
  | e :: es, xs => match xs with
    | x :: r => okT x && chkE Γ e x && (match es, r with
      | [], [] => true
      | [], _ => false
      | _, _ => chkB Γ es r)
    | _ => false
def chkK (Γ : Gam) : List (Str × E) → List Keyword → Bool
  | [], xs => match xs with
    | [] => true
    | _ => false
  | (k, e) :: es, xs => match xs with
    | ⟨some y, x, _⟩ :: r => decide (y = k) && chkE Γ e x && chkK Γ es r
    | _ => false
def chkO (Γ : Gam) : Option E → Option Expr → Bool
  | none, x => match x with
    | none => true
    | _ => false
  | some e, x => match x with
    | some y => chkE Γ e y
    | _ => false
def chkI (Γ : Gam) : It → Expr → Expr → Bool
  | .e e, _, ex => chkE Γ e ex && okE ex
  | .rng es, _, ex => match ex with
    | .Call (.Name x _) xs [] _ => decide (x = "range") && T.bl.contains x && glB Γ.sc x && xs.all okE && (decide (xs.length = 1) || decide (xs.length = 2)) && chkEs Γ es xs
    | _ => false
  | .enum e, tg, ex => match tg, ex with
    | .Tuple _ _ _, .Call (.Name x _) [y] [] _ => decide (x = "enumerate") && T.bl.contains x && glB Γ.sc x && okE y && chkE Γ e y
    | _, _ => false
  | .zip a b, tg, ex => match tg, ex with
    | .Tuple _ _ _, .Call (.Name x _) [y, z] [] _ => decide (x = "zip") && T.bl.contains x && glB Γ.sc x && okE y && okE z && chkE Γ a y && chkE Γ b z
    | _, _ => false
def chkC (Γ : Gam) : List E → List Expr → Bool
  | [], xs => match xs with
    | [] => true
    | _ => false
  | [e], xs => match xs with
    | [x] => okT x && chkE Γ e x
    | _ => false
  | _ :: _ :: _, _ => false
end
end MC
namespace MC
open PySem PySem.Spec L2
def permL {α : Type} (perm : List Nat) (us ws : List α) : List α := perm.filterMap fun i => (us ++ ws)[i]?
theorem permL_of {perm : List Nat} {ds zs as : List D} (h : permD perm (ds ++ zs) = some as) : permL perm ds zs = as := by
  unfold permD at h
  unfold permL
  induction perm generalizing as with
  | nil => simp at h; subst h; rfl
  | cons i p ih =>
    rw [List.mapM_cons] at h
    cases e : (ds ++ zs)[i]? with
    | none => rw [e] at h; cases h
    | some d =>
      rw [e] at h
      cases e2 : List.mapM (fun i => (ds ++ zs)[i]?) p with
      | none => rw [e2] at h; cases h
      | some as' =>
        rw [e2] at h
        cases h
        rw [List.filterMap_cons, e]
        exact congrArg _ (ih e2)
/-- an exception's class of the program -/
def ExcOk (K : PySem.W.Frag) (mg : Str → Option Value) (x : Str) : Prop := ∃ (bmB : List Value) (B newId initId : String), ExcBaseFacts B newId initId bmB ∧ PySem.W.excIn K (He.ga K x) bmB newId = true ∧ mg x = some (.ref (He.ga K x)) ∧ PySem.W.keepIn K (.ref (He.ga K x)) = true ∧
  PySem.W.subIn K (.ref (He.ga K x)) (.type "BaseException") = some true ∧ PySem.W.typeIn K (.ref (He.ga K x)) = some (.type "type")
/-- what _law_result makes of a call -/
def TTres (C : Cn) : (XK → Hp → VK → Prop) → Hp → VK → Prop := fun tl H Q => ∃ ρ g, Sto C.tb ρ g H ∧ ∀ ρ2 H2, Stp C.tb ρ H ρ2 H2 → Sto C.tb ρ2 g H2 →
  tl (fun cls d H' => ∃ c n ρ g, cls = .ref (He.ga C.K c) ∧ d = none ∧ xnm.lookup c = some n ∧ Sto C.tb ρ g H' ∧ ∀ ρ3 H'' v, Stp C.tb ρ H' ρ3 H'' → Sto C.tb ρ3 g H'' → Rep C ρ3 H'' (.tup [.str n]) v → Q v H'') H2
    (fun v H' => ∃ d ρ g, Sto C.tb ρ g H' ∧ Rep C ρ H' d v ∧ ∀ ρ3 H'' v', Stp C.tb ρ H' ρ3 H'' → Sto C.tb ρ3 g H'' → Rep C ρ3 H'' (.tup [.str "returns", d]) v' → Q v' H'')
structure ResOk (C : Cn) (P : Program) (w : World) (mg : Str → Option Value) (base : Heap) : Prop where
  ex : ∃ (pg : Arguments) (bg : List Stmt) (sg : Scope) (dV kV doc pm cdv ct oc : Value) (an od : Option Addr) (osl : Array (Option Value)) (Ng : List Str), mg "_law_result" = some (.ref (He.ga C.K "_law_result")) ∧ PySem.W.keepIn C.K (.ref (He.ga C.K "_law_result")) = true ∧
    C.K.lookup (He.ga C.K "_law_result") = some ⟨oc, od, .func (PySem.W.fnOf "_law_result" "_law_result" pg bg sg dV kV doc pm an cdv ct), osl⟩ ∧ PySem.W.codeIn C.K cdv "_law_result" = true ∧ L2.Binds C.K (PySem.W.fnOf "_law_result" "_law_result" pg bg sg dV kV doc pm an cdv ct) ["call"] [] ∧ FnScope Ng ["call"] sg ∧
    Ng[0]? = some ("call" : Str) ∧ Vis sg "call" ∧ ∀ (X : Cx) (q : Str), X.prog = P → X.w = w → X.K = C.K → X.mg = mg → X.base = base → Room 2 X.A → LamX.GivesTo X Ng "_law_result" sg (He.ga C.K "_law_result") cdv bg "call" q (TTres C)
/-- what is known of the module: the defs below n keep their promise -/
structure Mdl (T : Tab) (C : Cn) (P : Program) (w : World) (mg : Str → Option Value) (base : Heap) (Φ : Nat → List D → M D) (n : Nat) : Prop where
  bl : ∀ x, T.bl.contains x = true → mg x = none
  cn : ∀ x i, T.cn.contains (x, i) = true → ∃ u, mg x = some u ∧ RelV (.int i) u
  fn : ∀ f, f < n → T.us.contains f = true → ∃ fd ps, FnOk P w C.K mg base (L2.CX P w) (f + 1) (He.ga C.K (T.nm f)) fd ps (spM C ps.length (Φ f)) ∧ ps.length = T.ar f ∧ mg (T.nm f) = some (.ref (He.ga C.K (T.nm f))) ∧ PySem.W.keepIn C.K (.ref (He.ga C.K (T.nm f))) = true ∧ Binds C.K fd ps [] ∧
    ∀ m ks perm, T.kw.contains (f, m, ks, perm) = true → KBn C.K fd ps m ks (permL perm) (permL perm)
  ex : ∀ x, T.ex.contains x = true → ExcOk C.K mg x
  fl : ∀ c f, T.fl.contains (c, f) = true → Cls C.K (He.ga C.K c) ∧ NoAttr C.K (He.ga C.K c) f
  xs : ∀ c ds, T.xs.contains (c, ds) = true → XisOk C.K mg c ds
  lm : ∀ q, T.lm.contains q = true → LamX.TabB base mg (He.cT C.K (q, none)).1 (He.cT C.K (q, none)).2 ∧ ((He.cT C.K (q, none)).2, (q ++ ".<locals>.") ++ "<lambda>") ∈ C.tb ∧ ∀ p ∈ C.tb, p.1 = (He.cT C.K (q, none)).2 → p.2 = (q ++ ".<locals>.") ++ "<lambda>"
  rs : T.rs = true → ResOk C P w mg base
structure Good (T : Tab) (C : Cn) (Φ : Nat → List D → M D) (Γ : Gam) (X : Cx) (W : WX) : Prop where
  mdl : Mdl T C X.prog X.w X.mg X.base Φ Γ.n
  K : X.K = C.K
  N : X.N = Γ.N
  nd : X.N.Nodup
  sc : X.env.scope = Γ.sc
  calm : X.calm = true
  fn : ∀ x, Γ.fn x = true → X.fn x = true
  tk : Takes X W
  rm : Room Γ.n X.A
  lam : Γ.lam = true → ∃ q : Str, T.lm.contains q = true ∧ X.env.qual = q ++ ".<locals>." ∧ X.env.code = .ref (He.cT C.K (q, none)).1
section
variable {T : Tab} {C : Cn} {Φ : Nat → List D → M D} {Γ : Gam} {X : Cx} {W : WX} {H0 : Hp} {ρ0 : Rho}
theorem Good.gl (Gd : Good T C Φ Γ X W) {x : Str} (h : glB Γ.sc x = true) : Gl X x := by
  have := gl_of h
  rw [← Gd.sc] at this
  exact this
theorem Good.at_ (Gd : Good T C Φ Γ X W) {i : Nat} {x : Str} (h : decide (Γ.N[i]? = some x) = true) : X.N[i]? = some x := by
  rw [Gd.N]
  exact of_decide_eq_true h
theorem Good.blk (Gd : Good T C Φ Γ X W) {s : Shared} {H : Hp} {scope : Scope} {cl : List (Str × Addr)} {Cc : Addr} {fp : List Addr} : Good T C Φ (Γ.blk scope) (X.blk s H scope (compEnvC scope cl Cc X.env) fp) W0 :=
  ⟨Gd.mdl, Gd.K, Gd.N, Gd.nd, by show relS scope X.env.scope = relS scope Γ.sc; rw [Gd.sc], Gd.calm, fun x h => h, takes0, Gd.rm, fun z => absurd (show false = true from z) Bool.false_ne_true⟩
theorem Good.loc (Gd : Good T C Φ Γ X W) {x : Str} (h : locB Γ x = true) : L2.Loc X.env.scope x ∧ (X.fn x = true ∨ X.env.scope.names.lookup x = some .local) := by
  unfold locB at h
  rw [← Gd.sc] at h
  unfold L2.Loc
  split at h
  · rename_i e
    exact ⟨.inl e, .inr e⟩
  · rename_i e
    exact ⟨.inr e, .inl (Gd.fn x h)⟩
  · cases h
theorem ae_of {e : Expr} (h : okE e = true) (es : List Expr) (env : Env) : assignEach (e :: es) env = (false, assign e env) :: assignEach es env := by
  cases e <;> first | rfl | cases h
mutual
theorem sndG : ∀ (tg : Tg) (ex : Expr), Good T C Φ Γ X W → chkG Γ tg ex = true → PG X ex (gT C.K tg)
  | .n i, ex, Gd, h => by
    unfold chkG at h
    split at h
    · obtain ⟨h1, h2⟩ := Bool.and_eq_true_iff.mp h
      obtain ⟨l1, l2⟩ := Gd.loc h2
      exact pg_name Gd.nd (Gd.at_ h1) l1 l2
    · cases h
  | .t l, ex, Gd, h => by
    unfold chkG at h
    split at h
    · rename_i es kk pos
      obtain ⟨h1, h2, h3⟩ := sndGs l es Gd h
      have := pg_tup (pos := pos) (k := kk) Gd.calm h1 h2 h3
      rw [Gd.K] at this
      exact this
    · cases h
theorem sndGs : ∀ (l : List Tg) (es : List Expr), Good T C Φ Γ X W → chkGs Γ l es = true → PGs X es (gTs C.K l) ∧ (assignEach es X.env).length = l.length ∧ (assignEach es X.env).findIdx? (·.1) = none
  | [], es, Gd, h => by
    unfold chkGs at h
    split at h
    · exact ⟨pgs_nil, rfl, rfl⟩
    · cases h
  | t :: l, es, Gd, h => by
    unfold chkGs at h
    split at h
    · rename_i e r
      obtain ⟨h12, h3⟩ := Bool.and_eq_true_iff.mp h
      obtain ⟨h1, h2⟩ := Bool.and_eq_true_iff.mp h12
      obtain ⟨q1, q2, q3⟩ := sndGs l r Gd h3
      refine ⟨pgs_cons (sndG t e Gd h2) q1 (by rw [ae_of h1]; rfl), by rw [ae_of h1, List.length_cons, List.length_cons, q2], ?_⟩
      rw [ae_of h1, List.findIdx?_cons]
      show (if (false : Bool) = true then some 0 else _) = none
      rw [if_neg Bool.false_ne_true, q3]
      rfl
    · cases h
end
theorem PK.imp {e : List Keyword} {t t' : TA} (h : PK X e t) (k : ∀ σ H Q, t' σ H Q → t σ H Q) : PK X e t' := ⟨fun pos pins s σ H Q I hw => h.run pos pins s σ H Q I (k _ _ _ hw)⟩
theorem evs_len {es : List E} {σ : List Sl} {g : G} {ds : List D} {g' : G} (h : evs Φ es σ g = some (.ok ds, g')) : ds.length = es.length := by
  induction es generalizing g ds g' with
  | nil =>
    rw [evs] at h
    obtain ⟨e, _⟩ := pure_some h
    cases e
    rfl
  | cons e es ih =>
    rw [evs] at h
    rcases bind_some h with ⟨c, _, z⟩ | ⟨d, g1, h1, h2⟩
    · cases z
    rcases bind_some h2 with ⟨c, _, z⟩ | ⟨ds1, g2, h3, h4⟩
    · cases z
    obtain ⟨z, _⟩ := pure_some h4
    cases z
    rw [List.length_cons, List.length_cons, ih h3]
theorem evk_len {es : List (Str × E)} {σ : List Sl} {g : G} {ds : List D} {g' : G} (h : evk Φ es σ g = some (.ok ds, g')) : ds.length = es.length := by
  induction es generalizing g ds g' with
  | nil =>
    rw [evk] at h
    obtain ⟨e, _⟩ := pure_some h
    cases e
    rfl
  | cons e es ih =>
    obtain ⟨k, e⟩ := e
    rw [evk] at h
    rcases bind_some h with ⟨c, _, z⟩ | ⟨d, g1, h1, h2⟩
    · cases z
    rcases bind_some h2 with ⟨c, _, z⟩ | ⟨ds1, g2, h3, h4⟩
    · cases z
    obtain ⟨z, _⟩ := pure_some h4
    cases z
    rw [List.length_cons, List.length_cons, ih h3]
theorem chkEs_len : ∀ {es : List E} {xs : List Expr}, chkEs T Γ es xs = true → es.length = xs.length
  | [], xs, h => by
    unfold chkEs at h
    split at h
    · rfl
    · cases h
  | e :: es, xs, h => by
    unfold chkEs at h
    split at h
    · obtain ⟨_, h3⟩ := Bool.and_eq_true_iff.mp h
      rw [List.length_cons, List.length_cons, chkEs_len h3]
    · cases h
/-! ### keywords -/
theorem sK_nil : PK X [] (liftA C W H0 ρ0 fun _ => M.pure []) := by
  refine PK.imp pk_nil fun σV H Q h => ?_
  obtain ⟨σ, ρ, g, h⟩ := h
  obtain ⟨F, hk⟩ := At.pure h
  exact hk ρ H F (.refl _ _) [] rfl
theorem sK_cons {x : Expr} {y : Option Str} {kpos : Pos} {kws : List Keyword} {m : List Sl → M D} {ms : List Sl → M (List D)} (h1 : PE X x (lift C W H0 ρ0 m)) (h2 : PK X kws (liftA C W H0 ρ0 ms)) :
    PK X (⟨y, x, kpos⟩ :: kws) (liftA C W H0 ρ0 fun σ => M.bind (m σ) fun d => M.bind (ms σ) fun ds => M.pure (d :: ds)) := by
  refine PK.imp (pk_cons h1 h2) fun σV H Q h => ?_
  obtain ⟨σ, ρ, g, h⟩ := h
  refine ⟨σ, ρ, g, h.bind fun d ρ1 H1 g1 s1 h1 v rv => ?_⟩
  have F1 := h1.1
  refine ⟨σ, ρ1, g1, h1.bind fun ds ρ2 H2 g2 s2 h2 vs rvs => ?_⟩
  obtain ⟨F2, hk⟩ := At.pure h2
  exact hk ρ2 H2 F2 (.refl _ _) (v :: vs) ⟨v, vs, rfl, rv.to (s2.keeps F1.rok) s2.pre, rvs⟩
theorem Reps.perm {ρ : Rho} {H : Hp} {ds zs as : List D} {vs ws : List V} (perm : List Nat) (h : permD perm (ds ++ zs) = some as) (r : Reps C ρ H (ds ++ zs) (vs ++ ws)) : Reps C ρ H as (permL perm vs ws) := by
  unfold permD at h
  unfold permL
  induction perm generalizing as with
  | nil => simp at h; subst h; rfl
  | cons i p ih =>
    rw [List.mapM_cons] at h
    cases e : (ds ++ zs)[i]? with
    | none => rw [e] at h; cases h
    | some d =>
      rw [e] at h
      cases e2 : List.mapM (fun i => (ds ++ zs)[i]?) p with
      | none => rw [e2] at h; cases h
      | some as' =>
        rw [e2] at h
        cases h
        obtain ⟨v, ev, rv⟩ := r.get e
        rw [List.filterMap_cons, ev]
        exact ⟨v, _, rfl, rv, ih e2⟩
section
variable {k : Nat} {f : Addr} {fd : FuncData} {ps : List Str} {F : List D → M D} {x : Str} {p pos : Pos} {kws : List Keyword} {ms mk : List Sl → M (List D)} {perm : List Nat} {ks : List Str} {n : Nat}
/-- the arguments are there: the call -/
theorem kw_run {σV : L2.St} {H : Hp} {Q : VK} (len : ∀ σ g ds g', ms σ g = some (.ok ds, g') → ds.length = n) (lenk : ∀ σ g ds g', mk σ g = some (.ok ds, g') → ds.length = ks.length) (hpl : perm.length = ps.length)
    (h : lift C W H0 ρ0 (fun σ => M.bind (ms σ) fun ds => M.bind (mk σ) fun zs => M.bind (M.opt (permD perm (ds ++ zs))) fun as => F as) σV H Q) :
    liftA C W H0 ρ0 ms σV H fun vs H1 => liftA C W H0 ρ0 mk σV H1 fun zs H2 => vs.length = n ∧ zs.length = ks.length ∧ spM C ps.length F (permL perm vs zs) H2 Q (WE W σV) := by
  obtain ⟨σ, ρ, g, Fr, r, g', hm, hq⟩ := h
  rcases bind_some hm with ⟨c, h1, rfl⟩ | ⟨ds, g1, h1, h2⟩
  · exact ⟨σ, ρ, g, Fr, .ex c, g', h1, hq⟩
  refine ⟨σ, ρ, g, Fr, .ok ds, g1, h1, fun ρ1 H1 F1 s1 vs rv => ?_⟩
  rcases bind_some h2 with ⟨c, h3, rfl⟩ | ⟨zs, g2, h3, h4⟩
  · exact ⟨σ, ρ1, g1, F1, .ex c, g', h3, hq⟩
  refine ⟨σ, ρ1, g1, F1, .ok zs, g2, h3, fun ρ2 H2 F2 s2 ws rw' => ⟨rv.len.trans (len _ _ _ _ h1), rw'.len.trans (lenk _ _ _ _ h3), ?_⟩⟩
  rcases bind_some h4 with ⟨c, h5, _⟩ | ⟨as, g3, h5, h6⟩
  · obtain ⟨_, _, z, _⟩ := opt_some h5
    cases z
  obtain ⟨as', e, ez, eg⟩ := opt_some h5
  cases ez
  subst eg
  have al : as.length = ps.length := by
    rw [← hpl]
    unfold permD at e
    have : ∀ (p : List Nat) (as : List D), p.mapM (fun i => (ds ++ zs)[i]?) = some as → as.length = p.length := fun p => by
      induction p with
      | nil => intro as h; simp at h; subst h; rfl
      | cons i p ih =>
        intro as h
        rw [List.mapM_cons] at h
        cases e : (ds ++ zs)[i]? with
        | none => rw [e] at h; cases h
        | some d =>
          rw [e] at h
          cases e2 : List.mapM (fun i => (ds ++ zs)[i]?) p with
          | none => rw [e2] at h; cases h
          | some as' =>
            rw [e2] at h
            cases h
            rw [List.length_cons, List.length_cons, ih _ e2]
    exact this _ _ e
  refine sp_run (σ := σ) ⟨F2, r, g', h6, ?_⟩ (Reps.perm perm e ((rv.to (s2.keeps F1.rok) s2.pre).append rw')) al
  cases r with
  | ok b => exact fun ρ' H' F' s' => hq ρ' H' F' ((s1.trans s2).trans s')
  | ex c => exact hq
theorem sE_callk {e : Expr} {es : List Expr} (tk : Takes X W) (G : FnOk X.prog X.w X.K X.mg X.base (L2.CX X.prog X.w) k f fd ps (spM C ps.length F)) (hr : Room k X.A) (hg : Gl X x) (hm : X.mg x = some (.ref f)) (hk : PySem.W.keepIn X.K (.ref f) = true)
    (hb : KBn X.K fd ps n ks (permL perm) (permL perm)) (hdb : (x == ("__debug__" : Str)) = false) (ok : (e :: es).all okE = true) (hpl : perm.length = ps.length) (len : ∀ σ g ds g', ms σ g = some (.ok ds, g') → ds.length = n) (lenk : ∀ σ g ds g', mk σ g = some (.ok ds, g') → ds.length = ks.length)
    (ha : PA X (e :: es) (liftA C W H0 ρ0 ms)) (hkw : PK X kws (liftA C W H0 ρ0 mk)) (hall : (backToKw pos (keywordEach kws X.env)).all (·.1.isSome) = true) (hks : (backToKw pos (keywordEach kws X.env)).filterMap (·.1) = ks) (hno : (backToKw pos (keywordEach kws X.env)).any (·.1.isNone) = false) :
    PE X (.Call (.Name x p) (e :: es) kws pos) (lift C W H0 ρ0 fun σ => M.bind (ms σ) fun ds => M.bind (mk σ) fun zs => M.bind (M.opt (permD perm (ds ++ zs))) fun as => F as) := by
  obtain ⟨o1, o2⟩ := Bool.and_eq_true_iff.mp (show (okE e && es.all okE) = true from ok)
  refine ⟨fun pins s σV H Q I h => ?_⟩
  refine wpAny_Call_Name_kw (ld_glob I hg hm ?_ hdb)
  refine PySem.W.callWith_KW (h₀ := X.base) I.ok.mod.kin hk hall (thn (ha.run pos pins s σV H _ I (kw_run len lenk hpl h)) fun us s1 ⟨vs, H1, I1, r, q⟩ => ?_) (by rw [hno, Bool.or_false]; exact stars_of ok _ _) (star_of o1 _ _)
  refine thn (hkw.run pos pins s1 σV H1 _ I1 q) fun ws s2 ⟨zs, H2, I2, rz, l1, l2, q2⟩ => ⟨I2.kIn, ?_⟩
  rw [hks]
  have r2 := hb.rel r rz
  refine wpAny_call (codeAny_mono (G.run X.A X.stack s2 H2 ⟨us, ks.zip ws⟩ _ _ Q (WE W σV) hr I2.env0 (hb.to s2 us ws I2.kIn (r.length.symm.trans l1) (rz.length.symm.trans l2)) r2 q2) fun r s' hq => ?_)
  cases r with
  | error e => exact passAt tk σV pins H2 s2 e s' I2 hq
  | ok fl =>
    cases fl with
    | ret u => exact I2.after hq
    | next => exact False.elim hq
    | brk => exact False.elim hq
    | cont => exact False.elim hq
theorem sE_callk0 (tk : Takes X W) (G : FnOk X.prog X.w X.K X.mg X.base (L2.CX X.prog X.w) k f fd ps (spM C ps.length F)) (hr : Room k X.A) (hg : Gl X x) (hm : X.mg x = some (.ref f)) (hk : PySem.W.keepIn X.K (.ref f) = true)
    (hb : KBn X.K fd ps 0 ks (permL perm) (permL perm)) (hdb : (x == ("__debug__" : Str)) = false) (hpl : perm.length = ps.length) (lenk : ∀ σ g ds g', mk σ g = some (.ok ds, g') → ds.length = ks.length)
    (hkw : PK X kws (liftA C W H0 ρ0 mk)) (hall : (backToKw pos (keywordEach kws X.env)).all (·.1.isSome) = true) (hks : (backToKw pos (keywordEach kws X.env)).filterMap (·.1) = ks) (hno : (backToKw pos (keywordEach kws X.env)).any (·.1.isNone) = false) :
    PE X (.Call (.Name x p) [] kws pos) (lift C W H0 ρ0 fun σ => M.bind (M.pure []) fun ds => M.bind (mk σ) fun zs => M.bind (M.opt (permD perm (ds ++ zs))) fun as => F as) := by
  refine ⟨fun pins s σV H Q I h => ?_⟩
  refine wpAny_Call_Name_kw (ld_glob I hg hm ?_ hdb)
  have h' := kw_run (ms := fun _ => M.pure []) (n := 0) (fun _ _ _ _ z => by obtain ⟨e, _⟩ := pure_some z; cases e; rfl) lenk hpl h
  obtain ⟨σ, ρ, g, h'⟩ := h'
  obtain ⟨F, hk'⟩ := At.pure h'
  have h2 := hk' ρ H F (.refl _ _) [] rfl
  refine PySem.W.callWith_KW0 (h₀ := X.base) I.ok.mod.kin hk hall (thn (hkw.run pos pins s σV H _ I h2) fun ws s2 ⟨zs, H2, I2, rz, l1, l2, q2⟩ => ⟨I2.kIn, ?_⟩) (by rw [hno]; rfl)
  rw [hks]
  have r2 := hb.rel (.nil : Vals [] []) rz
  refine wpAny_call (codeAny_mono (G.run X.A X.stack s2 H2 ⟨[], ks.zip ws⟩ _ _ Q (WE W σV) hr I2.env0 (hb.to s2 [] ws I2.kIn rfl (rz.length.symm.trans l2)) r2 q2) fun r s' hq => ?_)
  cases r with
  | error e => exact passAt tk σV pins H2 s2 e s' I2 hq
  | ok fl =>
    cases fl with
    | ret u => exact I2.after hq
    | next => exact False.elim hq
    | brk => exact False.elim hq
    | cont => exact False.elim hq
end
end
end MC
namespace MC
open PySem PySem.Spec L2
section
variable {T : Tab} {C : Cn} {Φ : Nat → List D → M D} {Γ : Gam} {X : Cx} {W : WX} {H0 : Hp} {ρ0 : Rho}
theorem immS_len : ∀ σ : List Sl, (immS σ).length = σ.length
  | [] => rfl
  | s :: r => by cases s <;> exact congrArg (· + 1) (immS_len r)
theorem immS_get : ∀ {σ : List Sl} {i : Nat} {s : Sl}, (immS σ)[i]? = some s → s = .un ∨ ∃ d, s = .imm d ∧ σ[i]? = some (.imm d)
  | [], i, s, h => by simp [immS] at h
  | t :: r, 0, s, h => by
    cases t with
    | imm d => exact .inr ⟨d, (Option.some.inj h).symm, rfl⟩
    | _ => exact .inl (Option.some.inj h).symm
  | t :: r, i + 1, s, h => by
    have h' : (immS r)[i]? = some s := by cases t <;> exact h
    exact immS_get (σ := r) h'
/-- what a lambda may lean on -/
theorem Fm.imm {σ : List Sl} {σV : L2.St} {ρ : Rho} {g : G} {H : Hp} (F : Fm C H0 ρ0 σ σV ρ g H) : Fm C H ρ (immS σ) σV ρ g H := by
  have no : ∀ (j : Nat) s ov a, (immS σ)[j]? = some s → own s ov ≠ some a := fun j s ov a h z => by
    rcases immS_get h with rfl | ⟨d, rfl, _⟩
    · rw [own_un] at z; cases z
    · rw [own_imm] at z; cases z
  refine ⟨by rw [immS_len]; exact F.len, fun j s ov h1 h2 => ?_, fun i j s t ov ow a h1 h2 h3 => (no i s ov a h1 h3).elim, fun i s ov a h1 h2 h3 => (no i s ov a h1 h3).elim, .refl _ _ _, List.prefix_refl _, fun b z => .inl z, F.sto⟩
  rcases immS_get h1 with rfl | ⟨d, rfl, hd⟩
  · trivial
  · exact F.rep j _ ov hd h2
theorem res_some {m : M D} {g g' : G} {r : R D} (h : M.res m g = some (r, g')) : (∃ d, m g = some (.ok d, g') ∧ r = .ok (.tup [.str "returns", d])) ∨ ∃ c n, m g = some (.ex c, g') ∧ xnm.lookup c = some n ∧ r = .ok (.tup [.str n]) := by
  unfold M.res at h
  split at h
  · cases h
  · rename_i d g1 e
    cases h
    exact .inl ⟨d, e, rfl⟩
  · rename_i c g1 e
    obtain ⟨n, e1, e2⟩ := Option.map_eq_some_iff.mp h
    cases e2
    exact .inr ⟨c, n, e, e1, rfl⟩
/-- _law_result(lambda: e) -/
theorem sE_res {m : List Sl → M D} {params : Arguments} {body : Expr} {scope : Scope} {p lpos pos : Pos} (Gd : Good T C Φ Γ X W) (h2 : T.rs = true) (h3 : glB Γ.sc "_law_result" = true) (h4 : Γ.lam = true) (h5 : 2 ≤ Γ.n) (h6 : noArg params = true) (h7 : LamX.lamSB Γ.sc scope = true)
    (hb : ∀ (H1 : Hp) (ρ1 : Rho) (X' : Cx) (W' : WX), Good T C Φ (Γ.lm scope) X' W' → PE X' body (lift C W' H1 ρ1 m)) :
    PE X (.Call (.Name "_law_result" p) [.Lambda params body scope lpos] [] pos) (lift C W H0 ρ0 fun σ => M.res (m (immS σ))) := by
  obtain ⟨pg, bg, sg, dV, kV, doc, pm, cdv, ct, oc, an, od, osl, Ng, r1, r2, r3, r4, r5, r6, r7, r8, gv⟩ := (Gd.mdl.rs h2).ex
  obtain ⟨q, l1, l0, l2⟩ := Gd.lam h4
  obtain ⟨t1, t2, t3⟩ := Gd.mdl.lm _ l1
  rw [← l0] at t2 t3
  have hp : params = ⟨[], [], none, [], [], none, []⟩ := by
    unfold noArg at h6
    split at h6
    · rfl
    · cases h6
  subst hp
  have L : LamX.LamS X.env.scope scope := by
    rw [Gd.sc]
    exact LamX.lamS_by h7
  have rm := Gd.rm
  have hK := Gd.K
  have key := LamX.pe_lamcall (X := X) (T := C.tb) (TT := TTres C) (x := "_law_result") (a := "call") (k := Γ.n - 2) (body := body) (scope := scope) (params := ⟨[], [], none, [], [], none, []⟩) (t := fun E σV H Q => ∃ H1 ρ1, lift C (fun cls d _ H => E cls d H) H1 ρ1 m σV H Q) (p := p) (lpos := lpos) (pos := pos)
    (Gd.gl h3) r1 (by rw [hK]; exact r2) (by rw [hK]; exact r3) (by rw [hK]; exact r4) (by rw [hK]; exact r5) r6 r7 r8 (gv X _ rfl rfl hK rfl rfl (rm.mono h5)) t1 l2 t2 t3 (rm.mono (by omega)) L rfl (fun _ _ _ _ _ => rfl) (fun A outer s H E f c' hr => ?_)
  · refine PE.imp key fun σV H Q h => ?_
    obtain ⟨σ, ρ, g, F, r, g', hm, hk⟩ := h
    refine ⟨F.sto.tab, fun H1 eN T1 => ?_⟩
    have so1 : Sto C.tb ρ g H1 := ⟨F.sto.len, fun n o q e1 e2 => by
      have z := F.sto.at_ n o q e1 e2
      cases o with
      | town c rs => exact ⟨eN _ _ z.1 (fun _ z => nomatch z), eN _ _ z.2 (fun _ z => nomatch z)⟩, F.sto.sep, T1⟩
    have st1 : Stp C.tb ρ H ρ H1 := ⟨⟨fun b u e _ nt => eN b u e (fun ps z => nt (by rw [z]; trivial)), fun b u e _ _ hi => by
      obtain ⟨q, hq⟩ := hi
      obtain ⟨ps, e1, _⟩ := T1 _ hq
      exact ⟨_, e1, trivial⟩⟩, List.prefix_refl _, fun b z => .inl z⟩
    refine ⟨ρ, g, so1, fun ρ2 H2 s2 so2 => ?_⟩
    have st2 := st1.trans s2
    have F2 := F.step st2 so2
    rcases res_some hm with ⟨d, e1, rfl⟩ | ⟨c, n, e1, e2, rfl⟩
    · refine ⟨H2, ρ2, immS σ, ρ2, g, F2.imm, .ok d, g', e1, fun ρ3 H3 F3 s3 v rv => ⟨d, ρ3, g', F3.sto, rv, fun ρ4 H4 v' s4 so4 rv' => ?_⟩⟩
      have st := (st2.trans s3).trans s4
      exact hk ρ4 H4 (F.step st so4) st v' rv'
    · refine ⟨H2, ρ2, immS σ, ρ2, g, F2.imm, .ex c, g', e1, fun ρ3 H3 F3 => ⟨c, n, ρ3, g', rfl, rfl, e2, F3.sto, fun ρ4 H4 v' s4 so4 rv' => ?_⟩⟩
      have s3 : Stp C.tb ρ2 H2 ρ3 H3 := ⟨F3.ext, F3.pre, F3.nrh⟩
      have st := (st2.trans s3).trans s4
      exact hk ρ4 H4 (F.step st so4) st v' rv'
  · refine ⟨fun pins s' σV H' Q I h => ?_⟩
    obtain ⟨H1, ρ1, h⟩ := h
    have Md : Mdl T C X.prog X.w X.mg X.base Φ (Γ.n - 2) := { Gd.mdl with fn := fun f hf hu => Gd.mdl.fn f (by omega) hu }
    have G' : Good T C Φ (Γ.lm scope) (LamX.lamCx X A outer s H E scope f c') (fun cls d _ H => E cls d H) :=
      { mdl := Md, K := Gd.K, N := Gd.N, nd := Gd.nd, sc := rfl, calm := rfl, fn := fun _ z => absurd (show false = true from z) Bool.false_ne_true, tk := takes_of rfl rfl rfl rfl, rm := hr, lam := fun z => absurd (show false = true from z) Bool.false_ne_true }
    exact (hb H1 ρ1 _ _ G').run pins s' σV H' Q I h
end
end MC
namespace MC
open PySem PySem.Spec L2
section
variable {T : Tab} {C : Cn} {Φ : Nat → List D → M D} {H0 : Hp} {ρ0 : Rho}
theorem snd2 {Γ : Gam} {X : Cx} {W : WX} {ex : Expr} {m : List Sl → M D} (Gd : Good T C Φ Γ X W) (p : plainT ex = true) (h : PE X ex (lift C W H0 ρ0 m)) : PE X ex (lift C W H0 ρ0 m) ∧ (okT ex = true → PT X ex (liftT C W H0 ρ0 (tru m))) := ⟨h, fun _ => sT_any Gd.K p h⟩
theorem liftA_eq {X : Cx} {W : WX} {m m' : List Sl → M (List D)} {e : List Expr} (h : PA X e (liftA C W H0 ρ0 m)) (q : ∀ σ, m σ = m' σ) : PA X e (liftA C W H0 ρ0 m') := by
  rw [show m' = m from (funext fun σ => (q σ).symm)]
  exact h
theorem liftI_eq {X : Cx} {W : WX} {m m' : List Sl → M (List D)} {tg e : Expr} (h : PI X tg e (liftI C W H0 ρ0 m)) (q : ∀ σ, m σ = m' σ) : PI X tg e (liftI C W H0 ρ0 m') := by
  rw [show m' = m from (funext fun σ => (q σ).symm)]
  exact h
theorem liftT_eq {X : Cx} {W : WX} {m m' : List Sl → M Bool} {e : Expr} (h : PT X e (liftT C W H0 ρ0 m)) (q : ∀ σ, m σ = m' σ) : PT X e (liftT C W H0 ρ0 m') := by
  rw [show m' = m from (funext fun σ => (q σ).symm)]
  exact h
theorem liftW_eq {X : Cx} {W : WX} {m m' : List Sl → M Bool} {e : Expr} (h : PW X e (liftT C W H0 ρ0 m)) (q : ∀ σ, m σ = m' σ) : PW X e (liftT C W H0 ρ0 m') := by
  rw [show m' = m from (funext fun σ => (q σ).symm)]
  exact h
theorem Good.ops {Γ : Gam} {X : Cx} {W : WX} (Gd : Good T C Φ Γ X W) (o : Op2) : OpR X (opSem o) (rD2 C (opD o)) := op_sound Gd.K (by have := Gd.rm.un; omega) o
theorem Good.bop {Γ : Gam} {X : Cx} {W : WX} (Gd : Good T C Φ Γ X W) {o : Op2} {op : Operator} (h : binB o op = true) : OpR X (binaryOp op) (rD2 C (opD o)) := by
  rw [← bin_of h]
  exact Gd.ops o
theorem Good.cop {Γ : Gam} {X : Cx} {W : WX} (Gd : Good T C Φ Γ X W) {o : Op2} {op : CmpOp} (h : cmpB o op = true) : OpR X (compareOp op) (rD2 C (opD o)) := by
  rw [← cmp_of h]
  exact Gd.ops o
theorem sE_pr {Γ : Gam} {X : Cx} {W : WX} (Gd : Good T C Φ Γ X W) {q : Pr} {x : Expr} {xs : List Expr} {ms : List Sl → M (List D)} {p pos : Pos} (ok : (x :: xs).all okE = true) (hb : T.bl.contains (prN q) = true) (hg : glB Γ.sc (prN q) = true) (ha : PA X (x :: xs) (liftA C W H0 ρ0 ms)) :
    PE X (.Call (.Name (prN q) p) (x :: xs) [] pos) (lift C W H0 ρ0 fun σ => M.bind (ms σ) fun ds => M.opt (prD q ds)) := by
  have g := Gd.gl hg
  have m := Gd.mdl.bl _ hb
  cases q with
  | len => exact sE_prim ok (snd_len Gd.K) g m (by decide +kernel) (by decide) (by decide) ha
  | all => exact sE_prim ok (snd_all Gd.K Gd.calm) g m (by decide +kernel) (by decide) (by decide) ha
  | any => exact sE_prim ok (snd_any Gd.K Gd.calm) g m (by decide +kernel) (by decide) (by decide) ha
  | sum => exact sE_prim ok (snd_sum Gd.K Gd.calm) g m (by decide +kernel) (by decide) (by decide) ha
  | max => exact sE_prim ok (snd_max Gd.K Gd.calm) g m (by decide +kernel) (by decide) (by decide) ha
  | min => exact sE_prim ok (snd_min Gd.K Gd.calm) g m (by decide +kernel) (by decide) (by decide) ha
  | sorted => exact sE_prim ok (snd_sorted Gd.K Gd.calm) g m (by decide +kernel) (by decide) (by decide) ha
  | tuple => exact sE_primT ok (snd_tuple Gd.K) g m (by decide +kernel) (by decide) (by decide) ha
  | list => exact sE_primT ok (snd_list Gd.K) g m (by decide +kernel) (by decide) (by decide) ha
  | dictK => exact sE_primT ok (snd_dictK Gd.K Gd.calm) g m (by decide +kernel) (by decide) (by decide) ha
  | dictT => exact sE_primT ok (snd_dictT Gd.K Gd.calm (by have := Gd.rm.un; omega)) g m (by decide +kernel) (by decide) (by decide) ha
theorem ty_boot (t : Ty) : bootBuiltins (tyN t) = some (.type (tyName t)) ∧ tyN t ≠ "__name__" ∧ (tyN t == ("__debug__" : Str)) = false := by cases t <;> exact ⟨by decide +kernel, by decide, by decide⟩
theorem PTs.imp {X : Cx} {ifs : List Expr} {t t' : TT} (h : PTs X ifs t) (k : ∀ σ H Q, t' σ H Q → t σ H Q) : PTs X ifs t' := ⟨fun pins s σ H Q I hw => h.run pins s σ H Q I (k _ _ _ hw)⟩
theorem comp_eq (mi : List Sl → M (List D)) (tg : Tg) (own : List Nat) (test : List Sl → M Bool) (elt : List Sl → M D) (σ : List Sl) : (M.bind (compM mi tg own test elt σ) fun ds => M.pure (D.lst ds)) = M.bind (mi σ) fun items => M.bind (M.noex (compL tg test elt (clear own σ) items)) fun ds => M.pure (.lst ds) := by
  unfold compM
  rw [M.bind_assoc]
end
section
variable {T : Tab} {C : Cn} {Φ : Nat → List D → M D}
/-! ### all expressions -/
mutual
theorem sndE : ∀ (e : E) {H0 : Hp} {ρ0 : Rho} {Γ : Gam} {X : Cx} {W : WX} (ex : Expr), Good T C Φ Γ X W → chkE T Γ e ex = true → PE X ex (lift C W H0 ρ0 (ev Φ e)) ∧ (okT ex = true → PT X ex (liftT C W H0 ρ0 (tru (ev Φ e))))
  | .var i, H0, ρ0, Γ, X, W, ex, Gd, h => by
    unfold chkE at h
    split at h
    · simp only [Bool.and_eq_true, Bool.not_eq_true'] at h
      obtain ⟨⟨⟨h1, h2⟩, h3⟩, h4⟩ := h
      exact snd2 Gd rfl (lift_eq (sE_var (Gd.at_ h1) (by rw [Gd.sc]; exact vis_of h2) h3 h4) fun σ => by rw [ev])
    · cases h
  | .cst d, H0, ρ0, Γ, X, W, ex, Gd, h => by
    unfold chkE at h
    split at h
    · rename_i c j pos
      refine snd2 Gd rfl (lift_eq (m := fun _ => M.pure d) ?_ fun σ => by rw [ev])
      unfold cstB at h
      split at h
      · exact sE_cst pe_non fun _ _ => rfl
      · rename_i b c
        have e : b = c := by simpa using h
        subst e
        exact sE_cst pe_bl fun _ _ => rfl
      · rename_i b c
        have e : b = c := by simpa using h
        subst e
        exact sE_cst pe_int fun _ _ => rfl
      · rename_i b c
        have e : b = c := by simpa using h
        subst e
        exact sE_cst pe_str fun _ _ => rfl
      · cases h
    · cases h
  | .con x i, H0, ρ0, Γ, X, W, ex, Gd, h => by
    unfold chkE at h
    split at h
    · rename_i y pos
      simp only [Bool.and_eq_true, Bool.not_eq_true', decide_eq_true_eq] at h
      obtain ⟨⟨⟨h1, h2⟩, h3⟩, h4⟩ := h
      subst h1
      obtain ⟨u, hu, r⟩ := Gd.mdl.cn _ _ h3
      exact snd2 Gd rfl (lift_eq (m := fun _ => M.pure (.int i)) (sE_cst (pe_glob (Gd.gl h2) hu r h4) fun _ _ => rfl) fun σ => by rw [ev])
    · cases h
  | .tup es, H0, ρ0, Γ, X, W, ex, Gd, h => by
    unfold chkE at h
    split at h
    · rename_i xs kk pos
      simp only [Bool.and_eq_true, decide_eq_true_eq] at h
      obtain ⟨h1, h2⟩ := h
      have q := sndEs (H0 := H0) (ρ0 := ρ0) es xs Gd h1
      exact snd2 Gd rfl (lift_eq (sE_tup q fun σ g ds g' e => by rw [evs_len e, chkEs_len h1]; exact h2) fun σ => by rw [ev])
    · cases h
  | .lst es, H0, ρ0, Γ, X, W, ex, Gd, h => by
    unfold chkE at h
    split at h
    · rename_i xs pos
      simp only [Bool.and_eq_true, decide_eq_true_eq] at h
      obtain ⟨h1, h2⟩ := h
      have q := sndEs (H0 := H0) (ρ0 := ρ0) es xs Gd h1
      exact snd2 Gd rfl (lift_eq (sE_lst q fun σ g ds g' e => by rw [evs_len e, chkEs_len h1]; exact h2) fun σ => by rw [ev])
    · cases h
  | .op o a b, H0, ρ0, Γ, X, W, ex, Gd, h => by
    unfold chkE at h
    split at h
    · rename_i x op y pos
      simp only [Bool.and_eq_true] at h
      obtain ⟨⟨h1, h2⟩, h3⟩ := h
      exact snd2 Gd rfl (lift_eq (sE_bin (Gd.bop h1) (sndE (H0 := H0) (ρ0 := ρ0) a x Gd h2).1 (sndE (H0 := H0) (ρ0 := ρ0) b y Gd h3).1) fun σ => by rw [ev])
    · rename_i x op y pos
      simp only [Bool.and_eq_true] at h
      obtain ⟨⟨⟨h1, h0⟩, h2⟩, h3⟩ := h
      have q1 := (sndE (H0 := H0) (ρ0 := ρ0) a x Gd h2).1
      have q2 := (sndE (H0 := H0) (ρ0 := ρ0) b y Gd h3).1
      have eq : ∀ σ, (M.bind (ev Φ a σ) fun x => M.bind (ev Φ b σ) fun y => M.opt (opD o x y)) = ev Φ (.op o a b) σ := fun σ => by rw [ev]
      exact ⟨lift_eq (sE_cmp h0 (Gd.cop h1) q1 q2) eq, fun _ => liftT_eq (sT_cmp h0 (cmp_bl h1) (Gd.cop h1) q1 q2) fun σ => by unfold tru; rw [← eq]⟩
    · cases h
  | .chn o o' a b c, H0, ρ0, Γ, X, W, ex, Gd, h => by
    unfold chkE at h
    split at h
    · rename_i x op op' y z pos
      simp only [Bool.and_eq_true] at h
      obtain ⟨⟨⟨⟨⟨h1, h0⟩, h2⟩, h3⟩, h4⟩, h5⟩ := h
      have q1 := (sndE (H0 := H0) (ρ0 := ρ0) a x Gd h3).1
      have q2 := (sndE (H0 := H0) (ρ0 := ρ0) b y Gd h4).1
      have q3 := (sndE (H0 := H0) (ρ0 := ρ0) c z Gd h5).1
      have eq : ∀ σ, chnM (opD o) (opD o') (ev Φ a) (ev Φ b) (ev Φ c) σ = ev Φ (.chn o o' a b c) σ := fun σ => by rw [ev]; rfl
      exact ⟨lift_eq (sE_chn h2 (Gd.cop h1) (Gd.cop h0) q1 q2 q3) eq, fun _ => liftT_eq (sT_chn h2 (cmp_bl h0) (Gd.cop h1) (Gd.cop h0) q1 q2 q3) fun σ => by unfold tru; rw [eq]⟩
    · cases h
  | .and es, H0, ρ0, Γ, X, W, ex, Gd, h => by
    unfold chkE at h
    split at h
    · rename_i xs pos
      obtain ⟨q1, q2, _⟩ := sndB (H0 := H0) (ρ0 := ρ0) es xs pos Gd h
      have eq : ∀ σ, evAnd Φ es σ = ev Φ (.and es) σ := fun σ => by rw [ev]
      exact ⟨lift_eq q1 eq, fun _ => (liftW_eq q2 fun σ => by unfold tru; rw [eq]).pt⟩
    · cases h
  | .or es, H0, ρ0, Γ, X, W, ex, Gd, h => by
    unfold chkE at h
    split at h
    · rename_i xs pos
      obtain ⟨_, _, q1, q2⟩ := sndB (H0 := H0) (ρ0 := ρ0) es xs pos Gd h
      have eq : ∀ σ, evOr Φ es σ = ev Φ (.or es) σ := fun σ => by rw [ev]
      exact ⟨lift_eq q1 eq, fun _ => (liftW_eq q2 fun σ => by unfold tru; rw [eq]).pt⟩
    · cases h
  | .not e, H0, ρ0, Γ, X, W, ex, Gd, h => by
    unfold chkE at h
    split at h
    · rename_i x pos
      simp only [Bool.and_eq_true] at h
      obtain ⟨h1, h2⟩ := h
      obtain ⟨q1, q2⟩ := sndE (H0 := H0) (ρ0 := ρ0) e x Gd h2
      have eq : ∀ σ, (M.bind (ev Φ e σ) fun x => M.bind (M.opt (truth x)) fun t => M.pure (.bl (!t))) = ev Φ (.not e) σ := fun σ => by rw [ev]
      exact ⟨lift_eq (sE_not Gd.K q1) eq, fun _ => liftT_eq (sT_not (q2 h1)) fun σ => by unfold tru; rw [← eq]⟩
    · cases h
  | .neg e, H0, ρ0, Γ, X, W, ex, Gd, h => by
    unfold chkE at h
    split at h
    · rename_i x pos
      exact ⟨lift_eq (sE_neg (sndE (H0 := H0) (ρ0 := ρ0) e x Gd h).1) fun σ => by rw [ev] <;> congr 1, fun z => by cases z⟩
    · cases h
  | .ife c a b, H0, ρ0, Γ, X, W, ex, Gd, h => by
    unfold chkE at h
    split at h
    · rename_i x y z pos
      simp only [Bool.and_eq_true] at h
      obtain ⟨⟨⟨h1, h2⟩, h3⟩, h4⟩ := h
      exact ⟨lift_eq (sE_ife ((sndE (H0 := H0) (ρ0 := ρ0) c x Gd h2).2 h1) (sndE (H0 := H0) (ρ0 := ρ0) a y Gd h3).1 (sndE (H0 := H0) (ρ0 := ρ0) b z Gd h4).1) fun σ => by rw [ev]; rfl, fun z => by cases z⟩
    · cases h
  | .idx a b, H0, ρ0, Γ, X, W, ex, Gd, h => by
    unfold chkE at h
    split at h
    · rename_i x y pos
      simp only [Bool.and_eq_true] at h
      obtain ⟨⟨h1, h2⟩, h3⟩ := h
      exact snd2 Gd rfl (lift_eq (sE_idx (by have := Gd.rm.un; omega) Gd.K h1 (sndE (H0 := H0) (ρ0 := ρ0) a x Gd h2).1 (sndE (H0 := H0) (ρ0 := ρ0) b y Gd h3).1) fun σ => by rw [ev])
    · cases h
  | .slc a lo hi, H0, ρ0, Γ, X, W, ex, Gd, h => by
    unfold chkE at h
    split at h
    · rename_i x y z p2 pos
      simp only [Bool.and_eq_true] at h
      obtain ⟨⟨h1, h2⟩, h3⟩ := h
      exact snd2 Gd rfl (lift_eq (sE_slc Gd.K (sndE (H0 := H0) (ρ0 := ρ0) a x Gd h1).1 (sndO (H0 := H0) (ρ0 := ρ0) lo y Gd h2) (sndO (H0 := H0) (ρ0 := ρ0) hi z Gd h3)) fun σ => by rw [ev])
    · cases h
  | .call f es, H0, ρ0, Γ, X, W, ex, Gd, h => by
    unfold chkE at h
    split at h
    · rename_i x p xs pos
      simp only [Bool.and_eq_true, Bool.not_eq_true', decide_eq_true_eq] at h
      obtain ⟨⟨⟨⟨⟨⟨⟨h1, h2⟩, h3⟩, h4⟩, h5⟩, h6⟩, h7⟩, hu⟩ := h
      subst h1
      obtain ⟨fd, ps, F, l, hm, hk, hb, _⟩ := Gd.mdl.fn f h2 hu
      rw [← Gd.K] at F hk hb hm
      have q := sndEs (H0 := H0) (ρ0 := ρ0) es xs Gd h7
      cases xs with
      | nil =>
        have e0 : es = [] := by
          have := chkEs_len h7
          exact List.length_eq_zero_iff.mp this
        subst e0
        exact snd2 Gd rfl (lift_eq (sE_call0 Gd.tk F (Gd.rm.mono h2) (Gd.gl h4) hm hk hb h5 (by rw [l, h3]; rfl)) fun σ => by rw [ev, evs]; rfl)
      | cons x xs => exact snd2 Gd rfl (lift_eq (sE_call Gd.tk F (Gd.rm.mono h2) (Gd.gl h4) hm hk hb h5 h6 (fun σ g ds g' e => by rw [evs_len e, chkEs_len h7, l, h3]) q) fun σ => by rw [ev])
    · cases h
  | .callk f es ks perm, H0, ρ0, Γ, X, W, ex, Gd, h => by
    unfold chkE at h
    split at h
    · rename_i x p xs kws pos
      simp only [Bool.and_eq_true, Bool.not_eq_true', decide_eq_true_eq] at h
      obtain ⟨⟨⟨⟨⟨⟨⟨⟨⟨h1, h2⟩, h3⟩, hp⟩, h4⟩, h5⟩, h6⟩, h7⟩, h8⟩, hu⟩ := h
      subst h1
      obtain ⟨fd, ps, F, l, hm, hk, hb, hkw⟩ := Gd.mdl.fn f h2 hu
      have kb := hkw _ _ _ h3
      rw [← Gd.K] at F hk kb hm
      have q := sndEs (H0 := H0) (ρ0 := ρ0) es xs Gd h7
      obtain ⟨k1, k2, k3, k4⟩ := sndK (H0 := H0) (ρ0 := ρ0) ks kws Gd h8
      cases xs with
      | nil =>
        have e0 : es = [] := List.length_eq_zero_iff.mp (chkEs_len h7)
        subst e0
        exact snd2 Gd rfl (lift_eq (sE_callk0 Gd.tk F (Gd.rm.mono h2) (Gd.gl h4) hm hk kb h5 (by rw [hp, l]) (fun σ g ds g' e => by rw [evk_len e, List.length_map]) k1 (k2 pos) (k3 pos) (k4 pos)) fun σ => by rw [ev, evs])
      | cons x xs => exact snd2 Gd rfl (lift_eq (sE_callk Gd.tk F (Gd.rm.mono h2) (Gd.gl h4) hm hk kb h5 h6 (by rw [hp, l]) (fun σ g ds g' e => by rw [evs_len e, chkEs_len h7]) (fun σ g ds g' e => by rw [evk_len e, List.length_map]) q k1 (k2 pos) (k3 pos) (k4 pos)) fun σ => by rw [ev])
    · cases h
  | .prim q es, H0, ρ0, Γ, X, W, ex, Gd, h => by
    unfold chkE at h
    split at h
    · rename_i x p xs pos
      simp only [Bool.and_eq_true, Bool.not_eq_true', decide_eq_true_eq] at h
      obtain ⟨⟨⟨⟨⟨h1, h2⟩, h3⟩, h4⟩, h5⟩, h6⟩ := h
      subst h1
      cases xs with
      | nil => cases h4
      | cons x xs => exact snd2 Gd rfl (lift_eq (sE_pr Gd h5 h2 h3 (sndEs (H0 := H0) (ρ0 := ρ0) es _ Gd h6)) fun σ => by rw [ev])
    · cases h
  | .isi e t, H0, ρ0, Γ, X, W, ex, Gd, h => by
    unfold chkE at h
    split at h
    · rename_i x p y z p2 pos
      simp only [Bool.and_eq_true, decide_eq_true_eq] at h
      obtain ⟨⟨⟨⟨⟨⟨⟨h1, h2⟩, h3⟩, h4⟩, h5⟩, h6⟩, h7⟩, h8⟩ := h
      subst h1 h2
      obtain ⟨b1, b2, b3⟩ := ty_boot t
      exact snd2 Gd rfl (lift_eq (sE_isi Gd.K h7 (Gd.gl h5) (Gd.mdl.bl _ h3) (Gd.gl h6) (Gd.mdl.bl _ h4) b1 b2 b3 (sndE (H0 := H0) (ρ0 := ρ0) e y Gd h8).1) fun σ => by rw [ev])
    · cases h
  | .comp elt tg own it cs, H0, ρ0, Γ, X, W, ex, Gd, h => by
    unfold chkE at h
    split at h
    · rename_i x tge iter ifs scope pos
      simp only [Bool.and_eq_true, List.all_eq_true] at h
      obtain ⟨⟨⟨⟨⟨⟨h1, h2⟩, h3⟩, h4⟩, h5⟩, h6⟩, h7⟩ := h
      have bo : BlkOk X.N X.env.scope scope (ownOf Γ.N own) := by
        rw [Gd.N, Gd.sc]
        exact blkOk_by h1
      have q := sE_fz (sN_comp (pos := pos) Gd.calm Gd.nd Gd.K bo h2 (by rw [ownOf_ix]; exact fun i hi => by simpa using h3 i hi) (sndI (H0 := H0) (ρ0 := ρ0) it tge iter Gd h4) (fun s H Cc cl fp => sndG tg tge Gd.blk h5)
        (fun s H Cc cl fp => sndC (H0 := H0) (ρ0 := ρ0) cs ifs Gd.blk h6) (fun s H Cc cl fp => (sndE (H0 := H0) (ρ0 := ρ0) elt x Gd.blk h7).1))
      rw [ownOf_ix] at q
      exact snd2 Gd rfl (lift_eq q fun σ => by rw [comp_eq, ev])
    · cases h
  | .at_ i e, H0, ρ0, Γ, X, W, ex, Gd, h => by
    unfold chkE at h
    split at h
    · rename_i x px y pos
      simp only [Bool.and_eq_true, Bool.not_eq_true'] at h
      obtain ⟨⟨⟨⟨⟨h1, h2⟩, h3⟩, h4⟩, h5⟩, h6⟩ := h
      exact snd2 Gd rfl (lift_eq (sE_at (by have := Gd.rm.un; omega) Gd.K (Gd.at_ h1) (by rw [Gd.sc]; exact vis_of h2) h3 h4 h5 (sndE (H0 := H0) (ρ0 := ρ0) e y Gd h6).1) fun σ => by rw [ev])
    · cases h
  | .in_ neg e i, H0, ρ0, Γ, X, W, ex, Gd, h => by
    unfold chkE at h
    split at h
    · rename_i y op x px pos
      simp only [Bool.and_eq_true, Bool.not_eq_true'] at h
      obtain ⟨⟨⟨⟨⟨h0, h1⟩, h2⟩, h3⟩, h4⟩, h6⟩ := h
      have ho : op = if neg then .NotIn else .In := by cases neg <;> cases op <;> first | rfl | cases h0
      have q := (sndE (H0 := H0) (ρ0 := ρ0) e y Gd h6).1
      have eq : ∀ σ, (M.bind (ev Φ e σ) fun k => M.bind (mdS σ i) fun x => M.opt ((memD k x).map fun b => .bl (b != neg))) = ev Φ (.in_ neg e i) σ := fun σ => by rw [ev]
      exact ⟨lift_eq (sE_in (by have := Gd.rm.un; omega) ho (Gd.at_ h1) (by rw [Gd.sc]; exact vis_of h2) h3 h4 q) eq, fun _ => liftT_eq (sT_in (by have := Gd.rm.un; omega) ho (Gd.at_ h1) (by rw [Gd.sc]; exact vis_of h2) h3 h4 q) fun σ => by unfold tru; rw [← eq]⟩
    · cases h
  | .get a b, H0, ρ0, Γ, X, W, ex, Gd, h => by
    unfold chkE at h
    split at h
    · rename_i x at_ pa y pc
      simp only [Bool.and_eq_true, decide_eq_true_eq] at h
      obtain ⟨⟨⟨⟨⟨h1, h2⟩, h3⟩, h4⟩, h5⟩, h6⟩ := h
      subst h1
      exact snd2 Gd rfl (lift_eq (sE_get (by have := Gd.rm.un; omega) h2 h3 h4 (sndE (H0 := H0) (ρ0 := ρ0) a x Gd h5).1 (sndE (H0 := H0) (ρ0 := ρ0) b y Gd h6).1) fun σ => by rw [ev])
    · cases h
  | .get3 a b c, H0, ρ0, Γ, X, W, ex, Gd, h => by
    unfold chkE at h
    split at h
    · rename_i x at_ pa y z pc
      simp only [Bool.and_eq_true, decide_eq_true_eq] at h
      obtain ⟨⟨⟨⟨⟨⟨⟨h1, h2⟩, h3⟩, h3'⟩, h4⟩, h5⟩, h6⟩, h7⟩ := h
      subst h1
      exact snd2 Gd rfl (lift_eq (sE_get3 (by have := Gd.rm.un; omega) h2 h3 h3' h4 (sndE (H0 := H0) (ρ0 := ρ0) a x Gd h5).1 (sndE (H0 := H0) (ρ0 := ρ0) b y Gd h6).1 (sndE (H0 := H0) (ρ0 := ρ0) c z Gd h7).1) fun σ => by rw [ev])
    · cases h
  | .fld c a f, H0, ρ0, Γ, X, W, ex, Gd, h => by
    unfold chkE at h
    split at h
    · rename_i x g pos
      simp only [Bool.and_eq_true, decide_eq_true_eq] at h
      obtain ⟨⟨⟨h1, h2⟩, h3⟩, h4⟩ := h
      subst h1
      obtain ⟨c1, c2⟩ := Gd.mdl.fl _ _ h2
      exact snd2 Gd rfl (lift_eq (sE_fld Gd.K c1 c2 h3 (sndE (H0 := H0) (ρ0 := ρ0) a x Gd h4).1) fun σ => by rw [ev])
    · cases h
  | .make f es, H0, ρ0, Γ, X, W, ex, Gd, h => by
    unfold chkE at h
    cases h
  | .meth f c m a es, H0, ρ0, Γ, X, W, ex, Gd, h => by
    unfold chkE at h
    cases h
  | .maxv a, H0, ρ0, Γ, X, W, ex, Gd, h => by
    unfold chkE at h
    cases h
  | .rev a, H0, ρ0, Γ, X, W, ex, Gd, h => by
    unfold chkE at h
    cases h
  | .rngl t es, H0, ρ0, Γ, X, W, ex, Gd, h => by
    unfold chkE at h
    cases h
  | .isx e c ds, H0, ρ0, Γ, X, W, ex, Gd, h => by
    unfold chkE at h
    split at h
    · rename_i x p y z p2 pos
      simp only [Bool.and_eq_true, decide_eq_true_eq, Bool.not_eq_true', decide_eq_false_iff_not] at h
      obtain ⟨⟨⟨⟨⟨⟨⟨⟨⟨h1, h2⟩, h3⟩, h4⟩, h5⟩, h6⟩, h7⟩, h8⟩, h9⟩, h10⟩ := h
      subst h1
      subst h2
      exact snd2 Gd rfl (lift_eq (sE_isx Gd.K h7 (Gd.gl h5) (Gd.mdl.bl _ h3) (Gd.gl h6) (Gd.mdl.xs _ _ h4) h8 h9 (sndE (H0 := H0) (ρ0 := ρ0) e y Gd h10).1) fun σ => by rw [ev])
    · cases h
  | .res e, H0, ρ0, Γ, X, W, ex, Gd, h => by
    unfold chkE at h
    split at h
    · rename_i x p params body scope lpos pos
      simp only [Bool.and_eq_true, decide_eq_true_eq] at h
      obtain ⟨⟨⟨⟨⟨⟨⟨h1, h2⟩, h3⟩, h4⟩, h5⟩, h6⟩, h7⟩, h8⟩ := h
      subst h1
      exact snd2 Gd rfl (lift_eq (sE_res Gd h2 h3 h4 h5 h6 h7 fun H1 ρ1 X' W' Gd' => (sndE (H0 := H1) (ρ0 := ρ1) e body Gd' h8).1) fun σ => by rw [ev])
    · cases h
theorem sndEs : ∀ (es : List E) {H0 : Hp} {ρ0 : Rho} {Γ : Gam} {X : Cx} {W : WX} (xs : List Expr), Good T C Φ Γ X W → chkEs T Γ es xs = true → PA X xs (liftA C W H0 ρ0 (evs Φ es))
  | [], H0, ρ0, Γ, X, W, xs, Gd, h => by
    unfold chkEs at h
    split at h
    · exact liftA_eq sA_nil fun σ => by rw [evs]
    · cases h
  | e :: es, H0, ρ0, Γ, X, W, xs, Gd, h => by
    unfold chkEs at h
    split at h
    · rename_i x r
      simp only [Bool.and_eq_true] at h
      obtain ⟨⟨h1, h2⟩, h3⟩ := h
      exact liftA_eq (sA_cons h1 (sndE (H0 := H0) (ρ0 := ρ0) e x Gd h2).1 (sndEs (H0 := H0) (ρ0 := ρ0) es r Gd h3)) fun σ => by rw [evs]
    · cases h
theorem sndB : ∀ (es : List E) {H0 : Hp} {ρ0 : Rho} {Γ : Gam} {X : Cx} {W : WX} (xs : List Expr) (pos : Pos), Good T C Φ Γ X W → chkB T Γ es xs = true →
    PE X (.BoolOp .And xs pos) (lift C W H0 ρ0 (evAnd Φ es)) ∧ PW X (.BoolOp .And xs pos) (liftT C W H0 ρ0 (tru (evAnd Φ es))) ∧ PE X (.BoolOp .Or xs pos) (lift C W H0 ρ0 (evOr Φ es)) ∧ PW X (.BoolOp .Or xs pos) (liftT C W H0 ρ0 (tru (evOr Φ es)))
  | [], H0, ρ0, Γ, X, W, xs, pos, Gd, h => by
    unfold chkB at h
    cases h
  | [e], H0, ρ0, Γ, X, W, xs, pos, Gd, h => by
    unfold chkB at h
    split at h
    · rename_i x r
      simp only [Bool.and_eq_true] at h
      obtain ⟨⟨h1, h2⟩, h3⟩ := h
      cases r with
      | nil =>
        obtain ⟨q1, q2⟩ := sndE (H0 := H0) (ρ0 := ρ0) e x Gd h2
        have e1 : ∀ σ, ev Φ e σ = evAnd Φ [e] σ := fun σ => by rw [evAnd]
        have e2 : ∀ σ, ev Φ e σ = evOr Φ [e] σ := fun σ => by rw [evOr]
        exact ⟨lift_eq (pe_one q1) e1, liftW_eq (pw_and1 (q2 h1)) fun σ => by unfold tru; rw [e1], lift_eq (pe_one q1) e2, liftW_eq (pw_or1 (q2 h1)) fun σ => by unfold tru; rw [e2]⟩
      | cons _ _ => cases h3
    · cases h
  | e :: e' :: es, H0, ρ0, Γ, X, W, xs, pos, Gd, h => by
    unfold chkB at h
    split at h
    · rename_i x r
      simp only [Bool.and_eq_true] at h
      obtain ⟨⟨h1, h2⟩, h3⟩ := h
      cases r with
      | nil =>
        have h3 : chkB T Γ (e' :: es) [] = true := h3
        unfold chkB at h3
        cases h3
      | cons y r =>
        have h3 : chkB T Γ (e' :: es) (y :: r) = true := h3
        obtain ⟨q1, q2⟩ := sndE (H0 := H0) (ρ0 := ρ0) e x Gd h2
        obtain ⟨a1, a2, a3, a4⟩ := sndB (H0 := H0) (ρ0 := ρ0) (e' :: es) (y :: r) pos Gd h3
        have e1 : ∀ σ, andM (ev Φ e) (evAnd Φ (e' :: es)) σ = evAnd Φ (e :: e' :: es) σ := fun σ => by rw [evAnd]; rfl; intro z; cases z
        have e2 : ∀ σ, orM (ev Φ e) (evOr Φ (e' :: es)) σ = evOr Φ (e :: e' :: es) σ := fun σ => by rw [evOr]; rfl; intro z; cases z
        exact ⟨lift_eq (sE_and Gd.K q1 a1) e1, liftW_eq (sW_and (q2 h1) a2) fun σ => by unfold tru; rw [e1], lift_eq (sE_or Gd.K q1 a3) e2, liftW_eq (sW_or (q2 h1) a4) fun σ => by unfold tru; rw [e2]⟩
    · cases h
theorem sndK : ∀ (ks : List (Str × E)) {H0 : Hp} {ρ0 : Rho} {Γ : Gam} {X : Cx} {W : WX} (kws : List Keyword), Good T C Φ Γ X W → chkK T Γ ks kws = true → PK X kws (liftA C W H0 ρ0 (evk Φ ks)) ∧ (∀ pos, (backToKw pos (keywordEach kws X.env)).all (·.1.isSome) = true) ∧
    (∀ pos, (backToKw pos (keywordEach kws X.env)).filterMap (·.1) = ks.map (·.1)) ∧ ∀ pos, (backToKw pos (keywordEach kws X.env)).any (·.1.isNone) = false
  | [], H0, ρ0, Γ, X, W, kws, Gd, h => by
    unfold chkK at h
    split at h
    · exact ⟨by rw [show evk Φ [] = fun _ => M.pure [] from funext fun σ => by rw [evk]]; exact sK_nil, fun _ => rfl, fun _ => rfl, fun _ => rfl⟩
    · cases h
  | (k, e) :: ks, H0, ρ0, Γ, X, W, kws, Gd, h => by
    unfold chkK at h
    split at h
    · rename_i y x kp r
      simp only [Bool.and_eq_true, decide_eq_true_eq] at h
      obtain ⟨⟨h1, h2⟩, h3⟩ := h
      subst h1
      obtain ⟨a1, a2, a3, a4⟩ := sndK (H0 := H0) (ρ0 := ρ0) ks r Gd h3
      refine ⟨?_, fun pos => ?_, fun pos => ?_, fun pos => ?_⟩
      · rw [show evk Φ ((y, e) :: ks) = fun σ => M.bind (ev Φ e σ) fun d => M.bind (evk Φ ks σ) fun ds => M.pure (d :: ds) from funext fun σ => by rw [evk]]
        exact sK_cons (sndE (H0 := H0) (ρ0 := ρ0) e x Gd h2).1 a1
      · exact a2 pos
      · show y :: (backToKw pos (keywordEach r X.env)).filterMap (·.1) = _
        rw [a3 pos]
        rfl
      · exact a4 pos
    · cases h
theorem sndO : ∀ (o : Option E) {H0 : Hp} {ρ0 : Rho} {Γ : Gam} {X : Cx} {W : WX} (x : Option Expr), Good T C Φ Γ X W → chkO T Γ o x = true → PO X x (liftO C W H0 ρ0 (evo Φ o))
  | none, H0, ρ0, Γ, X, W, x, Gd, h => by
    unfold chkO at h
    split at h
    · rw [show evo Φ none = fun _ => M.pure none from funext fun σ => by rw [evo]]
      exact sO_none
    · cases h
  | some e, H0, ρ0, Γ, X, W, x, Gd, h => by
    unfold chkO at h
    split at h
    · rename_i y
      rw [show evo Φ (some e) = fun σ => M.bind (ev Φ e σ) fun x => match x with
        | .int i => M.pure (some i)
        | _ => M.fail from funext fun σ => by rw [evo] <;> congr 1]
      exact sO_some (sndE (H0 := H0) (ρ0 := ρ0) e y Gd h).1
    · cases h
theorem sndI : ∀ (it : It) {H0 : Hp} {ρ0 : Rho} {Γ : Gam} {X : Cx} {W : WX} (tg ex : Expr), Good T C Φ Γ X W → chkI T Γ it tg ex = true → PI X tg ex (liftI C W H0 ρ0 (evi Φ it))
  | .e e, H0, ρ0, Γ, X, W, tg, ex, Gd, h => by
    unfold chkI at h
    simp only [Bool.and_eq_true] at h
    exact liftI_eq (sI_e Gd.K (sndE (H0 := H0) (ρ0 := ρ0) e ex Gd h.1).1) fun σ => by rw [evi]
  | .rng es, H0, ρ0, Γ, X, W, tg, ex, Gd, h => by
    unfold chkI at h
    split at h
    · rename_i x p xs pos
      simp only [Bool.and_eq_true, decide_eq_true_eq, Bool.or_eq_true] at h
      obtain ⟨⟨⟨⟨⟨h1, h2⟩, h3⟩, h4⟩, h5⟩, h6⟩ := h
      subst h1
      have q := sndEs (H0 := H0) (ρ0 := ρ0) es xs Gd h6
      have l := chkEs_len h6
      match xs, h4, h5, q, l with
      | [a], h4, _, q, l => exact liftI_eq (sI_rng1 (by simpa using h4) (Gd.gl h3) (Gd.mdl.bl _ h2) q fun σ g ds g' e => by rw [evs_len e, l]; rfl) fun σ => by rw [evi]
      | [a, b], h4, _, q, l =>
        have h4 : okE a = true ∧ okE b = true := by simpa using h4
        exact liftI_eq (sI_rng2 h4.1 h4.2 (Gd.gl h3) (Gd.mdl.bl _ h2) q fun σ g ds g' e => by rw [evs_len e, l]; rfl) fun σ => by rw [evi]
      | [], _, h5, _, _ => simp at h5
      | _ :: _ :: _ :: _, _, h5, _, _ => simp at h5
    · cases h
  | .enum e, H0, ρ0, Γ, X, W, tg, ex, Gd, h => by
    unfold chkI at h
    split at h
    · rename_i x p y pos
      simp only [Bool.and_eq_true, decide_eq_true_eq] at h
      obtain ⟨⟨⟨⟨h1, h2⟩, h3⟩, h4⟩, h5⟩ := h
      subst h1
      exact liftI_eq (sI_enum Gd.K h4 (Gd.gl h3) (Gd.mdl.bl _ h2) (sndE (H0 := H0) (ρ0 := ρ0) e _ Gd h5).1) fun σ => by rw [evi]
    · cases h
  | .zip a b, H0, ρ0, Γ, X, W, tg, ex, Gd, h => by
    unfold chkI at h
    split at h
    · rename_i x p y z pos
      simp only [Bool.and_eq_true, decide_eq_true_eq] at h
      obtain ⟨⟨⟨⟨⟨⟨h1, h2⟩, h3⟩, h4⟩, h5⟩, h6⟩, h7⟩ := h
      subst h1
      exact liftI_eq (sI_zip Gd.K h4 h5 (Gd.gl h3) (Gd.mdl.bl _ h2) (sndE (H0 := H0) (ρ0 := ρ0) a _ Gd h6).1 (sndE (H0 := H0) (ρ0 := ρ0) b _ Gd h7).1) fun σ => by rw [evi]
    · cases h
theorem sndC : ∀ (cs : List E) {H0 : Hp} {ρ0 : Rho} {Γ : Gam} {X : Cx} {W : WX} (ifs : List Expr), Good T C Φ Γ X W → chkC T Γ cs ifs = true → PTs X ifs (liftT C W H0 ρ0 (evt Φ cs))
  | [], H0, ρ0, Γ, X, W, ifs, Gd, h => by
    unfold chkC at h
    split at h
    · rw [show evt Φ [] = fun _ => M.pure true from funext fun σ => by rw [evt]]
      exact sYes
    · cases h
  | [e], H0, ρ0, Γ, X, W, ifs, Gd, h => by
    unfold chkC at h
    split at h
    · rename_i x
      simp only [Bool.and_eq_true] at h
      rw [show evt Φ [e] = tru (ev Φ e) from funext fun σ => by rw [evt]; rfl]
      exact pts_one ((sndE (H0 := H0) (ρ0 := ρ0) e x Gd h.2).2 h.1)
    · cases h
  | _ :: _ :: _, H0, ρ0, Γ, X, W, ifs, Gd, h => by
    unfold chkC at h
    cases h
end
end
end MC
namespace MC
open PySem PySem.Spec L2
section
variable {C : Cn} {W : WX} {H0 : Hp} {ρ0 : Rho} {X : Cx} {σV : L2.St} {σ : List Sl} {ρ ρ' : Rho} {g g' : G} {H H' : Hp}
theorem Fm.stp (F : Fm C H0 ρ0 σ σV ρ g H) : Stp C.tb ρ0 H0 ρ H := ⟨F.ext, F.pre, F.nrh⟩
theorem Fm.free (F : Fm C H0 ρ0 σ σV ρ g H) {p : Addr} (n : H p = none) : Fre C.tb H0 p := F.stp.fre F.sto (.of n)
theorem Fm.freeF (F : Fm C H0 ρ0 σ σV ρ g H) {p : Addr} (n : Fre C.tb H p) : Fre C.tb H0 p := F.stp.fre F.sto n
/-- where slot i is set -/
theorem set_split {i j : Nat} {s x : Sl} {ov y : Option V} (h1 : (σ.set i x)[j]? = some s) (h2 : (σV.set i y)[j]? = some ov) : (j = i ∧ s = x ∧ ov = y) ∨ (j ≠ i ∧ σ[j]? = some s ∧ σV[j]? = some ov) := by
  by_cases e : j = i
  · subst e
    have l1 : j < σ.length := by simpa using (List.getElem?_eq_some_iff.mp h1).1
    have l2 : j < σV.length := by simpa using (List.getElem?_eq_some_iff.mp h2).1
    rw [List.getElem?_set_self l1] at h1
    rw [List.getElem?_set_self l2] at h2
    cases h1
    cases h2
    exact .inl ⟨rfl, rfl, rfl⟩
  · rw [List.getElem?_set_ne (Ne.symm e)] at h1 h2
    exact .inr ⟨e, h1, h2⟩
theorem Sto.updN {T : List (Addr × Str)} {ρ : Rho} {g : G} {H : Hp} {p : Addr} {o u : HO} (s : Sto T ρ g H) (e : H p = some u) (nc : ¬ isCd u) (nr : ¬ inRho ρ p) : Sto T ρ g (L2.upd H p o) :=
  s.same (fun b z => upd_ne (fun q => nr (by rw [← q]; exact z))) fun b w h hc => by
    rw [upd_ne (fun q => by rw [q, e] at h; cases h; exact nc hc)]
    exact h
/-- what is owned, if anything: p -/
def OwnsO (s : Sl) (p : Addr) : Prop := own s (some (.ref p)) = some p ∨ own s (some (.ref p)) = none
/-- a new object at p goes to slot i -/
theorem Fm.setOwn (F : Fm C H0 ρ0 σ σV ρ g H) {i : Nat} {p : Addr} {s' : Sl} (hs : SlR C ρ H s' (some (.ref p))) (ho : OwnsO s' p) (n0 : Fre C.tb H0 p) (nr : ¬ inRho ρ p) (no : ∀ (j : Nat) s ov, σ[j]? = some s → σV[j]? = some ov → own s ov ≠ some p) :
    Fm C H0 ρ0 (σ.set i s') (σV.set i (some (.ref p))) ρ g H := by
  have one : ∀ a, own s' (some (.ref p)) = some a → p = a := fun a h => by
    rcases ho with z | z
    · rw [z] at h; exact Option.some.inj h
    · rw [z] at h; cases h
  refine ⟨by simp [F.len], fun j s ov h1 h2 => ?_, fun j k s t ov ow a h1 h2 h3 h4 h5 h6 => ?_, fun j s ov a h1 h2 h3 => ?_, F.ext, F.pre, F.nrh, F.sto⟩
  · rcases set_split h1 h2 with ⟨_, rfl, rfl⟩ | ⟨_, q1, q2⟩
    · exact hs
    · exact F.rep j s ov q1 q2
  · rcases set_split h1 h2 with ⟨rfl, rfl, rfl⟩ | ⟨_, q1, q2⟩
    · cases one a h3
      rcases set_split h4 h5 with ⟨rfl, _⟩ | ⟨_, q3, q4⟩
      · rfl
      · exact absurd h6 (no k t ow q3 q4)
    · rcases set_split h4 h5 with ⟨rfl, rfl, rfl⟩ | ⟨_, q3, q4⟩
      · cases one a h6
        exact absurd h3 (no j s ov q1 q2)
      · exact F.sep j k s t ov ow a q1 q2 h3 q3 q4 h6
  · rcases set_split h1 h2 with ⟨_, rfl, rfl⟩ | ⟨_, q1, q2⟩
    · cases one a h3
      exact ⟨n0, nr⟩
    · exact F.new j s ov a q1 q2 h3
/-- a new list at p goes to slot i -/
theorem Fm.setML (F : Fm C H0 ρ0 σ σV ρ g H) {i : Nat} {p : Addr} {vs : List V} {ds : List D} (e : H p = some (.lst vs)) (r : Reps C ρ H ds vs) (n0 : Fre C.tb H0 p) (no : ∀ (j : Nat) s ov, σ[j]? = some s → σV[j]? = some ov → own s ov ≠ some p) :
    Fm C H0 ρ0 (σ.set i (.ml ds)) (σV.set i (some (.ref p))) ρ g H :=
  F.setOwn (s' := .ml ds) ⟨p, vs, rfl, e, r⟩ (.inl rfl) n0 (tup_not F.rok e (fun _ z => by cases z)) no
theorem no_own (F : Fm C H0 ρ0 σ σV ρ g H) {p : Addr} (n : Fre C.tb H p) : ∀ (j : Nat) s ov, σ[j]? = some s → σV[j]? = some ov → own s ov ≠ some p := fun j s ov h1 h2 z => by
  obtain ⟨u, q, nc⟩ := (F.rep j s ov h1 h2).own_at z
  exact isCd.of nc (n u q).1
theorem sigV_set {i : Nat} {x : V} (h : σV[i]? = some (some x)) : σV.set i (some x) = σV := by
  obtain ⟨hl, e⟩ := List.getElem?_eq_some_iff.mp h
  rw [← e]
  exact List.set_getElem_self hl
/-- slot i's object is changed -/
theorem Fm.updOwn (F : Fm C H0 ρ0 σ σV ρ g H) {i : Nat} {a : Addr} {s s' : Sl} {o : HO} (hs : σ[i]? = some s) (hv : σV[i]? = some (some (.ref a))) (ho : own s (some (.ref a)) = some a) (hs' : SlR C ρ (upd H a o) s' (some (.ref a))) (ho' : OwnsO s' a) (kp : Keeps C.K H (upd H a o)) :
    Fm C H0 ρ0 (σ.set i s') σV ρ g (upd H a o) := by
  obtain ⟨n0, nr⟩ := F.new i _ _ a hs hv ho
  have F2 : Fm C H0 ρ0 (σ.set i .un) σV ρ g H := F.forget1
  have nj : ∀ (j : Nat) s ov, (σ.set i .un)[j]? = some s → σV[j]? = some ov → own s ov ≠ some a := fun j s2 ov h1 h2 z => by
    have hj : j ≠ i := fun q => by
      subst q
      have l1 : j < σ.length := by simpa using (List.getElem?_eq_some_iff.mp h1).1
      rw [List.getElem?_set_self l1] at h1
      cases h1
      cases ov <;> cases z
    rw [List.getElem?_set_ne (Ne.symm hj)] at h1
    exact hj (F.sep j i s2 _ ov _ a h1 h2 z hs hv ho)
  have F3 : Fm C H0 ρ0 (σ.set i .un) σV ρ g (upd H a o) := by
    obtain ⟨u0, e0, nc0⟩ := (F.rep i _ _ hs hv).own_at ho
    refine ⟨F2.len, fun j s ov h1 h2 => ?_, F2.sep, F2.new, (F.stp.updF n0).ext, F2.pre, F2.nrh, F2.sto.updN e0 nc0 nr⟩
    refine (F2.rep j s ov h1 h2).to kp (List.prefix_refl _) fun b u hb q _ => ?_
    have : b ≠ a := fun z => nj j s ov h1 h2 (z ▸ hb)
    rw [upd_ne this]
    exact q
  have := F3.setOwn (i := i) hs' ho' n0 nr nj
  rw [List.set_set, sigV_set hv] at this
  exact this
/-- slot i's list is changed -/
theorem Fm.updML (F : Fm C H0 ρ0 σ σV ρ g H) {i : Nat} {a : Addr} {l ds : List D} {vs ws : List V} (hs : σ[i]? = some (.ml l)) (hv : σV[i]? = some (some (.ref a))) (e : H a = some (.lst vs)) (r : Reps C ρ H ds ws) :
    Fm C H0 ρ0 (σ.set i (.ml ds)) σV ρ g (upd H a (.lst ws)) ∧ Keeps C.K H (upd H a (.lst ws)) := by
  have kp : Keeps C.K H (upd H a (.lst ws)) := keeps_upd e
  exact ⟨F.updOwn hs hv rfl ⟨a, ws, rfl, upd_same, r.to kp (List.prefix_refl _)⟩ (.inl rfl) kp, kp⟩
/-- slot i's list is frozen -/
theorem Fm.fz (F : Fm C H0 ρ0 σ σV ρ g H) {i : Nat} {a : Addr} {l : List D} {vs : List V} {o : Obj} (hs : σ[i]? = some (.ml l)) (hv : σV[i]? = some (some (.ref a))) (e : H a = some (.lst vs)) (r : Reps C ρ H l vs) :
    Fm C H0 ρ0 (σ.set i (.imm (.lst l))) σV ρ g (upd H a (.frz o (.lst vs))) ∧ Keeps C.K H (upd H a (.frz o (.lst vs))) := by
  have kp : Keeps C.K H (upd H a (.frz o (.lst vs))) := keeps_upd e
  exact ⟨F.updOwn hs hv rfl ⟨_, rfl, a, vs, rfl, ⟨o, upd_same⟩, r.to kp (List.prefix_refl _)⟩ (.inr rfl) kp, kp⟩
/-! ### dicts of this frame -/
theorem dc_keeps {t : Bool} {ks ds : List D} {u o : HO} {a : Addr} (dc : DcR C ρ H t ks ds u) (e : H a = some u) : Keeps C.K H (upd H a o) := by
  rcases dc with ⟨_, kvs, rfl, _, _⟩ | ⟨_, kvs, rfl, _, _⟩ <;> exact keeps_updD e (fun _ z => by cases z) (fun _ _ z => by cases z) fun _ _ _ z => by cases z
theorem Fm.updMD (F : Fm C H0 ρ0 σ σV ρ g H) {i : Nat} {a : Addr} {t : Bool} {ks ds ks' ds' : List D} {u u' : HO} (hs : σ[i]? = some (.md t ks ds)) (hv : σV[i]? = some (some (.ref a))) (e : H a = some u) (dc : DcR C ρ H t ks ds u) (dc' : DcR C ρ H t ks' ds' u') :
    Fm C H0 ρ0 (σ.set i (.md t ks' ds')) σV ρ g (upd H a u') ∧ Keeps C.K H (upd H a u') := by
  have kp : Keeps C.K H (upd H a u') := dc_keeps dc e
  exact ⟨F.updOwn hs hv rfl ⟨a, u', rfl, upd_same, dc'.to kp (List.prefix_refl _)⟩ (.inl rfl) kp, kp⟩
theorem Fm.fzD (F : Fm C H0 ρ0 σ σV ρ g H) {i : Nat} {a : Addr} {t : Bool} {ks ds : List D} {u : HO} {o : Obj} (hs : σ[i]? = some (.md t ks ds)) (hv : σV[i]? = some (some (.ref a))) (e : H a = some u) (dc : DcR C ρ H t ks ds u) :
    Fm C H0 ρ0 (σ.set i (.imm (.dct t ks ds))) σV ρ g (upd H a (.frz o u)) ∧ Keeps C.K H (upd H a (.frz o u)) := by
  have kp : Keeps C.K H (upd H a (.frz o u)) := dc_keeps dc e
  exact ⟨F.updOwn hs hv rfl ⟨_, rfl, dct_rep (o := o) upd_same (dc.to kp (List.prefix_refl _))⟩ (.inr rfl) kp, kp⟩
/-! ### statements -/
variable (C W H0 ρ0) in
def liftS (m : List Sl → M Flow') : TS := fun E σV H => ∃ σ ρ g, Fm C H0 ρ0 σ σV ρ g H ∧ ∃ r g', m σ g = some (r, g') ∧ match r with
  | .ok (.next σ') => ∀ σV' ρ' H', Fm C H0 ρ0 σ' σV' ρ' g' H' → Keeps C.K H H' → ρ <+: ρ' → E.nx σV' H'
  | .ok (.brk σ') => ∀ σV' ρ' H', Fm C H0 ρ0 σ' σV' ρ' g' H' → Keeps C.K H H' → ρ <+: ρ' → E.bk σV' H'
  | .ok (.cnt σ') => ∀ σV' ρ' H', Fm C H0 ρ0 σ' σV' ρ' g' H' → Keeps C.K H H' → ρ <+: ρ' → E.ct σV' H'
  | .ok (.ret d) => ∀ v ρ' H', Stp C.tb ρ0 H0 ρ' H' → Sto C.tb ρ' g' H' → Rep C ρ' H' d v → E.rt v H'
  | .ex c => ∀ σV' ρ' H', Stp C.tb ρ0 H0 ρ' H' → Sto C.tb ρ' g' H' → W (.ref (He.ga C.K c)) none σV' H'
theorem liftS_eq {m m' : List Sl → M Flow'} {st : Stmt} (h : PS X st (liftS C W H0 ρ0 m)) (q : ∀ σ, m σ = m' σ) : PS X st (liftS C W H0 ρ0 m') := by
  rw [show m' = m from (funext fun σ => (q σ).symm)]
  exact h
theorem liftSs_eq {m m' : List Sl → M Flow'} {st : List Stmt} (h : PSs X st (liftS C W H0 ρ0 m)) (q : ∀ σ, m σ = m' σ) : PSs X st (liftS C W H0 ρ0 m') := by
  rw [show m' = m from (funext fun σ => (q σ).symm)]
  exact h
/-- the wish behind a run of an expression -/
theorem exc_of {c : Str} {E : Prop} (h : ∀ σV' ρ' H', Stp C.tb ρ0 H0 ρ' H' → Sto C.tb ρ' g' H' → W (.ref (He.ga C.K c)) none σV' H') : ∀ ρ' H', Fm C H0 ρ0 σ σV ρ' g' H' → W (.ref (He.ga C.K c)) none σV H' := fun ρ' H' F => h σV ρ' H' F.stp F.sto
theorem sS_nil : PSs X [] (liftS C W H0 ρ0 fun σ => M.pure (.next σ)) := by
  refine PSs.imp pss_nil fun E σV H h => ?_
  obtain ⟨σ, ρ, g, F, r, g', hm, hk⟩ := h
  obtain ⟨rfl, rfl⟩ := pure_some hm
  exact hk σV ρ H F (.refl _) (List.prefix_refl _)
def seqM (m k : List Sl → M Flow') : List Sl → M Flow' := fun σ => M.bind (m σ) fun f => match f with
  | .next σ' => k σ'
  | f => M.pure f
/-- a later wish is weaker -/
theorem liftS_mono {m : List Sl → M Flow'} {E E' : Ends} (hn : ∀ σV' H', E.nx σV' H' → E'.nx σV' H') (hb : ∀ σV' H', E.bk σV' H' → E'.bk σV' H') (hc : ∀ σV' H', E.ct σV' H' → E'.ct σV' H') (hr : ∀ v H', E.rt v H' → E'.rt v H') (h : liftS C W H0 ρ0 m E σV H) : liftS C W H0 ρ0 m E' σV H := by
  obtain ⟨σ, ρ, g, F, r, g', hm, hk⟩ := h
  refine ⟨σ, ρ, g, F, r, g', hm, ?_⟩
  cases r with
  | ex c => exact hk
  | ok f =>
    cases f with
    | next σ' => exact fun a b c d e f => hn _ _ (hk a b c d e f)
    | brk σ' => exact fun a b c d e f => hb _ _ (hk a b c d e f)
    | cnt σ' => exact fun a b c d e f => hc _ _ (hk a b c d e f)
    | ret d => exact fun a b c d e f => hr _ _ (hk a b c d e f)
theorem seq_read {m k : List Sl → M Flow'} {E : Ends} (h : liftS C W H0 ρ0 (seqM m k) E σV H) : liftS C W H0 ρ0 m { E with nx := liftS C W H0 ρ0 k E } σV H := by
  obtain ⟨σ, ρ, g, F, r, g', hm, hk⟩ := h
  rcases bind_some hm with ⟨c, h1, rfl⟩ | ⟨f, g1, h1, h2⟩
  · exact ⟨σ, ρ, g, F, .ex c, g', h1, hk⟩
  cases f with
  | next σ' =>
    refine ⟨σ, ρ, g, F, .ok (.next σ'), g1, h1, fun σV1 ρ1 H1 F1 k1 p1 => ⟨σ', ρ1, g1, F1, r, g', h2, ?_⟩⟩
    cases r with
    | ex c => exact hk
    | ok f =>
      cases f with
      | next σ' => exact fun a b c d e f => hk a b c d (k1.trans e) (p1.trans f)
      | brk σ' => exact fun a b c d e f => hk a b c d (k1.trans e) (p1.trans f)
      | cnt σ' => exact fun a b c d e f => hk a b c d (k1.trans e) (p1.trans f)
      | ret d => exact hk
  | brk σ' =>
    obtain ⟨rfl, rfl⟩ := pure_some h2
    exact ⟨σ, ρ, g, F, _, _, h1, hk⟩
  | cnt σ' =>
    obtain ⟨rfl, rfl⟩ := pure_some h2
    exact ⟨σ, ρ, g, F, _, _, h1, hk⟩
  | ret d =>
    obtain ⟨rfl, rfl⟩ := pure_some h2
    exact ⟨σ, ρ, g, F, _, _, h1, hk⟩
theorem sS_cons {st : Stmt} {sts : List Stmt} {m k : List Sl → M Flow'} (h1 : PS X st (liftS C W H0 ρ0 m)) (h2 : PSs X sts (liftS C W H0 ρ0 k)) : PSs X (st :: sts) (liftS C W H0 ρ0 (seqM m k)) :=
  PSs.imp (pss_cons h1 h2) fun E σV H h => seq_read h
/-- a docstring, pass -/
theorem sS_skip {st : Stmt} {sts : List Stmt} {k : List Sl → M Flow'} (h1 : PS X st tNext) (h2 : PSs X sts (liftS C W H0 ρ0 k)) : PSs X (st :: sts) (liftS C W H0 ρ0 k) :=
  PSs.imp (pss_cons h1 h2) fun E σV H h => h
/-- ghost: slot i is frozen -/
theorem sS_fz {sts : List Stmt} {i : Nat} {k : List Sl → M Flow'} (h2 : PSs X sts (liftS C W H0 ρ0 k)) : PSs X sts (liftS C W H0 ρ0 (seqM (fun σ => fzS σ i) k)) := by
  refine ⟨fun pins s σV H E I h => ?_⟩
  have h := seq_read h
  obtain ⟨σ, ρ, g, F, r, g', hm, hk⟩ := h
  replace hm : fzS σ i g = some (r, g') := hm
  unfold fzS at hm
  cases e : slot σ i with
  | ml l =>
    rw [e] at hm
    obtain ⟨rfl, rfl⟩ := pure_some hm
    obtain ⟨a, vs, hv, ha, ra, hs⟩ := F.getL e
    obtain ⟨o, I'⟩ := inv_frz I ha
    obtain ⟨F', kp⟩ := F.fz (o := o) hs hv ha ra
    exact h2.run pins s σV _ E I' (hk σV ρ _ F' kp (List.prefix_refl _))
  | md t ks ds =>
    rw [e] at hm
    obtain ⟨rfl, rfl⟩ := pure_some hm
    obtain ⟨a, u, hv, ha, dc, hs⟩ := F.getD e
    obtain ⟨o, I'⟩ := inv_frzH I ha dc.isDc
    obtain ⟨F', kp⟩ := F.fzD (o := o) hs hv ha dc
    exact h2.run pins s σV _ E I' (hk σV ρ _ F' kp (List.prefix_refl _))
  | _ => rw [e] at hm; cases hm
/-- ghost: slots are forgotten -/
theorem sS_clr {sts : List Stmt} {is : List Nat} {k : List Sl → M Flow'} (h2 : PSs X sts (liftS C W H0 ρ0 k)) : PSs X sts (liftS C W H0 ρ0 (seqM (fun σ => M.pure (.next (clear is σ))) k)) := by
  refine PSs.imp h2 fun E σV H h => ?_
  have h := seq_read h
  obtain ⟨σ, ρ, g, F, r, g', hm, hk⟩ := h
  obtain ⟨rfl, rfl⟩ := pure_some hm
  exact hk σV ρ H (F.clear is) (.refl _) (List.prefix_refl _)
/-! ### small statements -/
theorem sS_ret {e : Expr} {m : List Sl → M D} {pos : Pos} (h : PE X e (lift C W H0 ρ0 m)) : PS X (.Return (some e) pos) (liftS C W H0 ρ0 fun σ => M.bind (m σ) fun d => M.pure (.ret d)) := by
  refine PS.imp (ps_ret h) fun E σV H h => ?_
  obtain ⟨σ, ρ, g, F, r, g', hm, hk⟩ := h
  rcases bind_some hm with ⟨c, h1, rfl⟩ | ⟨d, g1, h1, h2⟩
  · exact ⟨σ, ρ, g, F, .ex c, g', h1, exc_of (E := True) hk⟩
  · obtain ⟨rfl, rfl⟩ := pure_some h2
    exact ⟨σ, ρ, g, F, .ok d, _, h1, fun ρ' H' F' s' v rv => hk v ρ' H' F'.stp F'.sto rv⟩
theorem sS_exp {e : Expr} {m : List Sl → M D} {pos : Pos} (nc : noComp e = true) (h : PE X e (lift C W H0 ρ0 m)) : PS X (.Expr e pos) (liftS C W H0 ρ0 fun σ => M.bind (m σ) fun _ => M.pure (.next σ)) := by
  refine PS.imp (ps_expr h (swaps_of nc _ _ _)) fun E σV H h => ?_
  obtain ⟨σ, ρ, g, F, r, g', hm, hk⟩ := h
  rcases bind_some hm with ⟨c, h1, rfl⟩ | ⟨d, g1, h1, h2⟩
  · exact ⟨σ, ρ, g, F, .ex c, g', h1, exc_of (E := True) hk⟩
  · obtain ⟨rfl, rfl⟩ := pure_some h2
    exact ⟨σ, ρ, g, F, .ok d, _, h1, fun ρ' H' F' s' v rv => hk σV ρ' H' F' (s'.keeps F.rok) s'.pre⟩
theorem sS_brk {pos : Pos} : PS X (.Break pos) (liftS C W H0 ρ0 fun σ => M.pure (.brk σ)) := by
  refine PS.imp ps_break fun E σV H h => ?_
  obtain ⟨σ, ρ, g, F, r, g', hm, hk⟩ := h
  obtain ⟨rfl, rfl⟩ := pure_some hm
  exact hk σV ρ H F (.refl _) (List.prefix_refl _)
theorem sS_cnt {pos : Pos} : PS X (.Continue pos) (liftS C W H0 ρ0 fun σ => M.pure (.cnt σ)) := by
  refine PS.imp ps_continue fun E σV H h => ?_
  obtain ⟨σ, ρ, g, F, r, g', hm, hk⟩ := h
  obtain ⟨rfl, rfl⟩ := pure_some hm
  exact hk σV ρ H F (.refl _) (List.prefix_refl _)
theorem asg_read {m : List Sl → M D} {tg : Tg} {E : Ends} (h : liftS C W H0 ρ0 (fun σ => M.bind (m σ) fun d => M.bind (M.opt (put tg d σ)) fun σ' => M.pure (.next σ')) E σV H) : tAsg (lift C W H0 ρ0 m) (gT C.K tg) E σV H := by
  obtain ⟨σ, ρ, g, F, r, g', hm, hk⟩ := h
  rcases bind_some hm with ⟨c, h1, rfl⟩ | ⟨d, g1, h1, h2⟩
  · exact ⟨σ, ρ, g, F, .ex c, g', h1, exc_of (E := True) hk⟩
  rcases bind_some h2 with ⟨c, h3, _⟩ | ⟨σ', g2, h3, h4⟩
  · obtain ⟨_, _, z, _⟩ := opt_some h3
    cases z
  obtain ⟨σ'', e, ez, rfl⟩ := opt_some h3
  cases ez
  obtain ⟨rfl, rfl⟩ := pure_some h4
  exact ⟨σ, ρ, g, F, .ok d, _, h1, fun ρ1 H1 F1 s1 v rv => put_ok e F1 rv fun σV' _ F' => hk σV' ρ1 H1 F' (s1.keeps F.rok) s1.pre⟩
theorem sS_asgN {e : Expr} {m : List Sl → M D} {i : Nat} {x : Str} {pos px : Pos} (hN : X.N.Nodup) (hi : X.N[i]? = some x) (hx : L2.Loc X.env.scope x) (hf : X.fn x = true ∨ X.env.scope.names.lookup x = some .local) (nc : noComp e = true) (h : PE X e (lift C W H0 ρ0 m)) :
    PS X (.Assign [.Name x px] e pos) (liftS C W H0 ρ0 fun σ => M.bind (m σ) fun d => M.bind (M.opt (put (.n i) d σ)) fun σ' => M.pure (.next σ')) :=
  PS.imp (ps_set hN hi hx h (swaps_of nc _ _ _) hf) fun E σV H h => asg_read h
def noTup : Expr → Bool
  | .Tuple vs _ _ => vs.all (foldedForSure 8)
  | _ => true
theorem stores_of {es : List Expr} {kk : Nat} {px : Pos} {e : Expr} {env : Env} (h : noTup e = true) : swappedStores [.Tuple es kk px] e env = pure none := by
  cases e with
  | Tuple vs k p =>
    have h : vs.all (foldedForSure 8) = true := h
    unfold swappedStores
    simp only [h, if_true, pure_bind]
    repeat' split
    all_goals first | rfl | simp_all
  | _ => rfl
theorem sS_asgT {e : Expr} {m : List Sl → M D} {tg : Tg} {es : List Expr} {kk : Nat} {pos px : Pos} (hg : PG X (.Tuple es kk px) (gT C.K tg)) (nc : noComp e = true) (nt : noTup e = true) (h : PE X e (lift C W H0 ρ0 m)) :
    PS X (.Assign [.Tuple es kk px] e pos) (liftS C W H0 ρ0 fun σ => M.bind (m σ) fun d => M.bind (M.opt (put tg d σ)) fun σ' => M.pure (.next σ')) :=
  PS.imp (ps_asg h hg (by show swapsWith e (some (.Tuple es kk px)) pos.line X.env = pure false; exact swaps_of nc _ _ _) (stores_of nt) rfl) fun E σV H h => asg_read h
end
end MC
namespace MC
open PySem PySem.Spec L2
section
variable {C : Cn} {W : WX} {H0 : Hp} {ρ0 : Rho} {X : Cx} {σV : L2.St} {σ : List Sl} {ρ ρ' : Rho} {g g' : G} {H H' : Hp}
theorem mlS_some {i : Nat} {r : R (List D)} (h : mlS σ i g = some (r, g')) : ∃ l, slot σ i = .ml l ∧ r = .ok l ∧ g' = g := by
  unfold mlS at h
  cases e : slot σ i with
  | ml l =>
    rw [e] at h
    obtain ⟨rfl, rfl⟩ := pure_some h
    exact ⟨l, rfl, rfl, rfl⟩
  | _ => rw [e] at h; cases h
/-! ### name = a new list -/
theorem new_read {m : List Sl → M D} {i : Nat} {E : Ends} (h : liftS C W H0 ρ0 (fun σ => M.bind (m σ) (newS σ i)) E σV H) : tAsg (liftN C W H0 ρ0 fun σ => M.bind (m σ) asL) (gName i) E σV H := by
  obtain ⟨σ, ρ, g, F, r, g', hm, hk⟩ := h
  rcases bind_some hm with ⟨c, h1, rfl⟩ | ⟨d, g1, h1, h2⟩
  · refine ⟨σ, ρ, g, F, .ex c, g', ?_, exc_of (E := True) hk⟩
    show M.bind (m σ) asL g = _
    unfold M.bind
    rw [h1]
  · cases d with
    | lst l =>
      have h2 : (if i < σ.length then M.pure (Flow'.next (σ.set i (.ml l))) else M.fail) g1 = some (r, g') := h2
      split at h2
      · obtain ⟨rfl, rfl⟩ := pure_some h2
        refine ⟨σ, ρ, g, F, .ok l, g', ?_, fun p vs ρ' H' hp st so e rv => ?_⟩
        · show M.bind (m σ) asL g = _
          unfold M.bind
          rw [h1]
          rfl
        · exact hk _ ρ' H' ((F.step st so).setML e rv (F.freeF hp) (no_own F hp)) (st.keeps F.rok) st.pre
      · cases h2
    | _ => cases h2
theorem sS_new {e : Expr} {m : List Sl → M D} {i : Nat} {x : Str} {pos px : Pos} (hN : X.N.Nodup) (hi : X.N[i]? = some x) (hx : L2.Loc X.env.scope x) (hf : X.fn x = true ∨ X.env.scope.names.lookup x = some .local)
    (nc : swapsWith e (some (.Name x px)) pos.line X.env = pure false) (h : PE X e (liftN C W H0 ρ0 fun σ => M.bind (m σ) asL)) : PS X (.Assign [.Name x px] e pos) (liftS C W H0 ρ0 fun σ => M.bind (m σ) (newS σ i)) :=
  PS.imp (ps_set hN hi hx h nc hf) fun E σV H h => new_read h
/-- is the comprehension's name stored within -/
def swC (sc scope : Scope) (y : Str) (py pos : Pos) : Bool := decide (sc.names.lookup y = some .local) && (py.line == pos.line) && !(scope.names.any fun (n, k) => n == y && (k == .local || k == .cell))
theorem sw_false {elt : Expr} {gs : List Comprehension} {scope : Scope} {pos py : Pos} {y : Str} {l : Nat} {env : Env} (h : swC env.scope scope y py pos = false) : swapsWith (.ListComp elt gs scope pos) (some (.Name y py)) l env = pure false := by
  show pure _ = pure false
  congr 1
  unfold swC at h
  have e : env.kindOf y = env.scope.names.lookup y := rfl
  rw [e]
  simp only [Expr.pos]
  cases h1 : (env.blockKind == ScopeKind.function)
  · simp
  · cases h2 : decide (env.scope.names.lookup y = some .local)
    · have : (env.scope.names.lookup y == some NameKind.local) = false := by
        have := of_decide_eq_false h2
        simpa using this
      rw [this]
      simp
    · rw [h2] at h
      have : (env.scope.names.lookup y == some NameKind.local) = true := by
        have := of_decide_eq_true h2
        rw [this]
        rfl
      rw [this]
      simpa using h
section
variable {elt tge iter : Expr} {ifs : List Expr} {scope : Scope} {pos spos py : Pos} {mi : List Sl → M (List D)} {tg : Tg} {own : List (Str × Nat)} {test : List Sl → M Bool} {me : List Sl → M D} {i : Nat} {y : Str}
theorem asL_eq (m : M (List D)) : M.bind (M.bind m fun ds => M.pure (D.lst ds)) asL = m := by
  rw [M.bind_assoc]
  exact M.bind_pure m
theorem sS_newC (hc : X.calm = true) (hN : X.N.Nodup) (hK : X.K = C.K) (hy : X.N[i]? = some y) (hx : L2.Loc X.env.scope y) (hf : X.fn y = true ∨ X.env.scope.names.lookup y = some .local) (hkd : X.env.scope.kind = .function) (ok : BlkOk X.N X.env.scope scope own) (oki : okE iter = true) (hin : ∀ i ∈ tgSlots tg, i ∈ own.map (·.2)) (hi : PI X tge iter (liftI C W H0 ρ0 mi))
    (hg : ∀ (s : Shared) (H : Hp) (Cc : Addr) (cl : List (Str × Addr)) (fp : List Addr), PG (X.blk s H scope (compEnvC scope cl Cc X.env) fp) tge (gT C.K tg))
    (ht : ∀ (s : Shared) (H : Hp) (Cc : Addr) (cl : List (Str × Addr)) (fp : List Addr), PTs (X.blk s H scope (compEnvC scope cl Cc X.env) fp) ifs (liftT C W0 H0 ρ0 test))
    (he : ∀ (s : Shared) (H : Hp) (Cc : Addr) (cl : List (Str × Addr)) (fp : List Addr), PE (X.blk s H scope (compEnvC scope cl Cc X.env) fp) elt (lift C W0 H0 ρ0 me)) :
    PS X (.Assign [.Name y py] (.ListComp elt [⟨tge, iter, ifs, 0⟩] scope pos) spos) (liftS C W H0 ρ0 fun σ => M.bind (M.bind (compM mi tg (own.map (·.2)) test me σ) fun ds => M.pure (.lst ds)) (newS σ i)) := by
  have rd : ∀ {E : Ends} {σV : L2.St} {H : Hp}, liftS C W H0 ρ0 (fun σ => M.bind (M.bind (compM mi tg (own.map (·.2)) test me σ) fun ds => M.pure (.lst ds)) (newS σ i)) E σV H → tAsg (liftN C W H0 ρ0 (compM mi tg (own.map (·.2)) test me)) (gName i) E σV H := fun {E σV H} h => by
    have := new_read h
    rw [show (fun σ => M.bind (M.bind (compM mi tg (own.map (·.2)) test me σ) fun ds => M.pure (D.lst ds)) asL) = compM mi tg (own.map (·.2)) test me from funext fun σ => asL_eq _] at this
    exact this
  cases hb : swC X.env.scope scope y py pos with
  | false => exact PS.imp (ps_set hN hy hx (sN_comp hc hN hK ok oki hin hi hg ht he) (sw_false hb) hf) fun E σV H h => rd h
  | true =>
    unfold swC at hb
    simp only [Bool.and_eq_true, decide_eq_true_eq, Bool.not_eq_true'] at hb
    exact PS.imp (ps_setLc hc hN hy hb.1.1 (sw_true hkd hb.1.1 hb.1.2 hb.2) hi ok hg ht he (folded_of oki X.env)) fun E σV H h => comp_read hin (rd h)
end
/-! ### a, b = x, y -/
theorem sw_two {x y : Str} {a b : Expr} {px py pt p2 : Pos} {kt k2 : Nat} {env : Env} (hk : env.scope.kind = .function) (hx : env.scope.names.lookup x = some .local) (hy : env.scope.names.lookup y = some .local) (hl : (py.line == px.line) = true) (hxy : (x == y) = false) (oa : okE a = true) (ob : okE b = true)
    (hf : [a, b].all (foldedForSure 8) = false) (hc : [a, b].all (constantsAlone 8) = false) : swappedStores [.Tuple [.Name x px, .Name y py] kt pt] (.Tuple [a, b] k2 p2) env = pure (some [x, y]) := by
  have hb : env.blockKind = .function := by unfold Env.blockKind; rw [hk]; rfl
  have kx : env.kindOf x = some .local := hx
  have ky : env.kindOf y = some .local := hy
  have na : ∀ e : Expr, okE e = true → (match e with | .Starred .. => true | _ => false) = false := fun e h => by cases e <;> first | rfl | cases h
  have lx : (px.line == px.line) = true := by simp
  unfold swappedStores
  simp only [hb, kx, ky, Expr.pos, List.any_cons, List.any_nil, na a oa, na b ob, List.head?_cons, Option.map_some, Option.getD_some, List.filterMap_cons, List.filterMap_nil, lx, hl, hf, hc]
  have yx : (y == x) = false := by
    rw [Bool.eq_false_iff] at hxy ⊢
    intro z
    exact hxy (by rw [show y = x by simpa using z]; simp)
  have : [x, y].eraseDups.length = 2 := by
    rw [List.eraseDups_cons, List.filter_cons, yx]
    rfl
  simp [this]
  intro h
  exfalso
  rcases h with h | h
  · revert h
    cases a <;> first | (intro h; cases h; done) | cases oa
  · revert h
    cases b <;> first | (intro h; cases h; done) | cases ob
theorem par_read {ms : List Sl → M (List D)} {i j : Nat} {E : Ends} (h : liftS C W H0 ρ0 (fun σ => M.bind (ms σ) fun ds => M.bind (M.opt (setAll [i, j] ds σ)) fun σ' => M.pure (.next σ')) E σV H) : tPar i j (liftA C W H0 ρ0 ms) E σV H := by
  obtain ⟨σ, ρ, g, F, r, g', hm, hk⟩ := h
  rcases bind_some hm with ⟨c, h1, rfl⟩ | ⟨ds, g1, h1, h2⟩
  · exact ⟨σ, ρ, g, F, .ex c, g', h1, exc_of (E := True) hk⟩
  rcases bind_some h2 with ⟨c, h3, _⟩ | ⟨σ', g2, h3, h4⟩
  · obtain ⟨_, _, z, _⟩ := opt_some h3
    cases z
  obtain ⟨σ'', e, ez, rfl⟩ := opt_some h3
  cases ez
  obtain ⟨rfl, rfl⟩ := pure_some h4
  refine ⟨σ, ρ, g, F, .ok ds, _, h1, fun ρ1 H1 F1 s1 vs rv => ?_⟩
  match ds, e with
  | [d1, d2], e =>
    obtain ⟨v, w, rfl, r1, r2⟩ := reps2 rv
    have e : (if i < σ.length then (if j < (σ.set i (.imm d1)).length then some ((σ.set i (.imm d1)).set j (.imm d2)) else none) else none) = some σ' := e
    split at e
    · split at e
      · cases e
        exact ⟨v, w, rfl, hk _ ρ1 H1 ((F1.set r1).set r2) (s1.keeps F.rok) s1.pre⟩
      · cases e
    · cases e
  | [], e => cases e
  | [_], e =>
    have e : (if i < σ.length then none else none) = some σ' := e
    split at e <;> cases e
  | d1 :: d2 :: d3 :: ds, e =>
    have e : (if i < σ.length then (if j < (σ.set i (.imm d1)).length then none else none) else none) = some σ' := e
    split at e
    · split at e <;> cases e
    · cases e
/-! ### changes of a list -/
theorem get_list : PGet X (fun o i H Q => ∃ p xs k v, o = .ref p ∧ i = .int k ∧ H p = some (.lst xs) ∧ atI xs k = some v ∧ Q v H) := by
  intro pins s σ H o i ov iv Q I ro ri h
  obtain ⟨p, xs, k, z, rfl, rfl, hp, he, q⟩ := h
  cases ro
  obtain ⟨t, rfl⟩ := ri
  obtain ⟨its, r, pl, hz⟩ := I.list (SqL.of hp)
  obtain ⟨j, h1, h2, h3, h4, h5⟩ := atI_get he
  obtain ⟨w, ew, rw'⟩ := r.get h2
  have hl := r.length
  have hn := line63
  have fin : EP X pins σ Q w s := ⟨z, H, I, rw', q⟩
  by_cases h0 : 0 ≤ k
  · have hj : k.toNat = j := by
      rw [seqIndex_of h0 h5] at h1
      exact Option.some.inj h1
    exact wpAny_getItem_list pl.isList h0 (by omega) (by rw [hj]; simpa using ew) fin
  · have hj : (k + (its.toArray.size : Int)).toNat = j := by
      rw [seqIndex_neg (by omega) h4] at h1
      rw [List.size_toArray, ← hl]
      exact Option.some.inj h1
    exact wpAny_getItem_list_neg pl.isList (by omega) (by rw [List.size_toArray] <;> omega) (by omega) (by rw [hj]; simpa using ew) fin
end
end MC
namespace MC
open PySem PySem.Spec L2
section
variable {C : Cn} {W : WX} {H0 : Hp} {ρ0 : Rho} {X : Cx} {σV : L2.St} {σ : List Sl} {ρ ρ' : Rho} {g g' : G} {H H' : Hp}
/-- slot i's list behind a run of an expression -/
theorem slot_of {i : Nat} {s : Sl} (h : slot σ i = s) (n : s ≠ .un) : σ[i]? = some s := by
  unfold slot at h
  rw [List.getD_eq_getElem?_getD] at h
  cases q : σ[i]? with
  | none => rw [q] at h; exact absurd h.symm n
  | some t => rw [q] at h; exact congrArg some h
theorem of_slot {i : Nat} {s : Sl} (h : σ[i]? = some s) : slot σ i = s := by
  unfold slot
  rw [List.getD_eq_getElem?_getD, h]
  rfl
theorem app_read {m : List Sl → M D} {i : Nat} {E : Ends} (hK : X.K = C.K) (h : liftS C W H0 ρ0 (fun σ => M.bind (mlS σ i) fun _ => M.bind (m σ) (appS σ i)) E σV H) :
    tDrop (tBM X.K "list" rAppend (fun σV H Q => ∃ v, σV[i]? = some (some v) ∧ Q v H) (tCons (lift C W H0 ρ0 m) tNil)) E σV H := by
  obtain ⟨σ, ρ, g, F, r, g', hm, hk⟩ := h
  rcases bind_some hm with ⟨c, h1, _⟩ | ⟨l, g1, h1, h2⟩
  · obtain ⟨_, _, z, _⟩ := mlS_some h1
    cases z
  obtain ⟨l', e, ez, eg⟩ := mlS_some h1
  cases ez
  subst eg
  obtain ⟨a, vs, hv, ha, ra, hs⟩ := F.getL e
  refine ⟨.ref a, hv, .inl ⟨rfl, vs, SqL.of ha⟩, ?_⟩
  rcases bind_some h2 with ⟨c, h3, rfl⟩ | ⟨d, g2, h3, h4⟩
  · exact ⟨σ, ρ, g1, F, .ex c, g', h3, exc_of (E := True) hk⟩
  refine ⟨σ, ρ, g1, F, .ok d, g2, h3, fun ρ1 H1 F1 s1 v rv => ?_⟩
  replace h4 : appS σ i d g2 = some (r, g') := h4
  unfold appS at h4
  rw [e] at h4
  replace h4 : (if l.length < sizeLine then M.pure (Flow'.next (σ.set i (.ml (l ++ [d])))) else M.fail) g2 = some (r, g') := h4
  split at h4
  · rename_i hz
    obtain ⟨rfl, rfl⟩ := pure_some h4
    obtain ⟨ws, h5, r5⟩ := F1.getI hs hv
    obtain ⟨F2, kp⟩ := F1.updML hs hv h5 (r5.snoc rv)
    exact ⟨a, ws, v, rfl, rfl, h5, by rw [r5.len]; exact hz, hk σV ρ1 _ F2 ((s1.keeps F.rok).trans kp) s1.pre⟩
  · cases h4
def rExtendF : V → List V → Hp → VK → Prop := fun x vs H Q => ∃ l b xs zs, x = .ref l ∧ vs = [.ref b] ∧ H l = some (.lst xs) ∧ LsH H b zs ∧ xs.length + zs.length ≤ sizeLine ∧ Q .non (upd H l (.lst (xs ++ zs)))
open PyProof.Rows in
theorem mt_extendF : MtM X "list.extend" rExtendF := by
  intro pins s σ H x vs v us Q I rx rv h
  obtain ⟨l, b, xs, zs, rfl, rfl, hH, hB, hz, q⟩ := h
  cases rx
  obtain ⟨u, rfl, ru⟩ := rv.one
  cases ru
  obtain ⟨z, its, n, r, hl, e⟩ := I.lstM hH
  obtain ⟨z2, its2, n2, r2, hl2, e2⟩ := lsM I hB
  have hsz : its.toArray.size + its2.toArray.size ≤ sizeLine := by rw [List.size_toArray, List.size_toArray]; omega
  have hlong : ¬ (!its.toArray.isEmpty && Builtin.List.listTooLong (its.toArray.size + its2.toArray.size)) = true := by
    rw [notLongL hsz, Bool.and_false]
    exact Bool.false_ne_true
  refine call_meets PySem.F.slot_list_extend ⟨_, e, rfl⟩ PySem.F.entry_list_extend (PySem.F.args_list_extend_2 _ _)
    (AutoSeq1.list_extend_list_list_0 l its.toArray n b its2.toArray n2 hlong (by rw [List.size_toArray]; omega) (by omega)) ⟨e, e2, ?_⟩
  refine ⟨.non, _, I.lset (its' := its ++ its2) hH e (by simp) (r.append r2) ?_, rfl, q⟩
  rw [List.length_append]
  omega
theorem ext_read {m : List Sl → M D} {i : Nat} {E : Ends} (hK : X.K = C.K) (h : liftS C W H0 ρ0 (fun σ => M.bind (mlS σ i) fun _ => M.bind (m σ) (extS σ i)) E σV H) :
    tDrop (tBM X.K "list" rExtendF (fun σV H Q => ∃ v, σV[i]? = some (some v) ∧ Q v H) (tCons (lift C W H0 ρ0 m) tNil)) E σV H := by
  obtain ⟨σ, ρ, g, F, r, g', hm, hk⟩ := h
  rcases bind_some hm with ⟨c, h1, _⟩ | ⟨l, g1, h1, h2⟩
  · obtain ⟨_, _, z, _⟩ := mlS_some h1
    cases z
  obtain ⟨l', e, ez, eg⟩ := mlS_some h1
  cases ez
  subst eg
  obtain ⟨a, vs, hv, ha, ra, hs⟩ := F.getL e
  refine ⟨.ref a, hv, .inl ⟨rfl, vs, SqL.of ha⟩, ?_⟩
  rcases bind_some h2 with ⟨c, h3, rfl⟩ | ⟨d, g2, h3, h4⟩
  · exact ⟨σ, ρ, g1, F, .ex c, g', h3, exc_of (E := True) hk⟩
  refine ⟨σ, ρ, g1, F, .ok d, g2, h3, fun ρ1 H1 F1 s1 v rv => ?_⟩
  replace h4 : extS σ i d g2 = some (r, g') := h4
  unfold extS at h4
  rw [e] at h4
  cases d with
  | lst m =>
    replace h4 : (if l.length + m.length ≤ sizeLine then M.pure (Flow'.next (σ.set i (.ml (l ++ m)))) else M.fail) g2 = some (r, g') := h4
    split at h4
    · rename_i hz
      obtain ⟨rfl, rfl⟩ := pure_some h4
      obtain ⟨ws, h5, r5⟩ := F1.getI hs hv
      obtain ⟨b, zs, rfl, fz, r6⟩ := rv
      obtain ⟨F2, kp⟩ := F1.updML hs hv h5 (r5.append r6)
      exact ⟨a, b, ws, zs, rfl, rfl, h5, .inr fz, by rw [r5.len, r6.len]; exact hz, hk σV ρ1 _ F2 ((s1.keeps F.rok).trans kp) s1.pre⟩
    · cases h4
  | _ => cases h4
section
variable {x : Str} {i : Nat} {p pa pc pos : Pos} {e : Expr} {m : List Sl → M D}
theorem few_of {e : Expr} (ok : okE e = true) (cpos : Pos) (env : Env) : ((backTo cpos (starEach [e] env)).all (fun x => !x.1) && (backToKw cpos (keywordEach [] env)).all (fun x => x.1.isSome)
      && decide ([e].length + ([] : List Keyword).length + (if ([] : List Keyword).isEmpty then 0 else 1) < 30)) = true := by
  rw [star_of ok]
  rfl
theorem sS_app (hK : X.K = C.K) (hN : X.N[i]? = some x) (hv : Vis X.env.scope x) (hd : (x == ("__debug__" : Str)) = false) (hcd : (x == ("__classdict__" : Str)) = false) (ok : okE e = true) (hl : (pa.endLine == pc.line) = true) (h : PE X e (lift C W H0 ρ0 m)) :
    PS X (.Expr (.Call (.Attribute (.Name x p) "append" pa) [e] [] pc) pos) (liftS C W H0 ρ0 fun σ => M.bind (mlS σ i) fun _ => M.bind (m σ) (appS σ i)) :=
  PS.imp (ps_expr (pe_bm PySem.F.plainAttrs_list PySem.F.slot_list_append PySem.F.type_list_append mt_append (getL_run hN hv hd hcd) (pa_cons h pa_nil (star_of ok _ _)) rfl (few_of ok _ _) hl (star_of ok _ _) rfl) rfl) fun E σV H h => app_read hK h
theorem sS_ext (hK : X.K = C.K) (hN : X.N[i]? = some x) (hv : Vis X.env.scope x) (hd : (x == ("__debug__" : Str)) = false) (hcd : (x == ("__classdict__" : Str)) = false) (ok : okE e = true) (hl : (pa.endLine == pc.line) = true) (h : PE X e (lift C W H0 ρ0 m)) :
    PS X (.Expr (.Call (.Attribute (.Name x p) "extend" pa) [e] [] pc) pos) (liftS C W H0 ρ0 fun σ => M.bind (mlS σ i) fun _ => M.bind (m σ) (extS σ i)) :=
  PS.imp (ps_expr (pe_bm PySem.F.plainAttrs_list PySem.F.slot_list_extend PySem.F.type_list_extend mt_extendF (getL_run hN hv hd hcd) (pa_cons h pa_nil (star_of ok _ _)) rfl (few_of ok _ _) hl (star_of ok _ _) rfl) rfl) fun E σV H h => ext_read hK h
end
/-! ### xs[i] = e, xs[i] op= e -/
theorem setS_some {i : Nat} {k v : D} {r : R Flow'} (h : setS σ i k v g = some (r, g')) : ∃ l n j, slot σ i = .ml l ∧ k = .int n ∧ ixN l.length n = some j ∧ r = .ok (.next (σ.set i (.ml (l.set j v)))) ∧ g' = g := by
  unfold setS at h
  cases e : slot σ i with
  | ml l =>
    rw [e] at h
    cases k with
    | int n =>
      replace h : (match ixN l.length n with
        | some j => M.pure (Flow'.next (σ.set i (.ml (l.set j v))))
        | none => M.fail) g = some (r, g') := h
      cases q : ixN l.length n with
      | none => rw [q] at h; cases h
      | some j =>
        rw [q] at h
        obtain ⟨rfl, rfl⟩ := pure_some h
        exact ⟨l, n, j, rfl, rfl, q, rfl, rfl⟩
    | _ => cases h
  | _ =>
    rw [e] at h
    cases k <;> cases h
/-- the store -/
theorem set_fin {i : Nat} {a : Addr} {k v : D} {kv w : V} {r : R Flow'} {Qn : Hp → Prop} (F : Fm C H0 ρ0 σ σV ρ g H) (hv : σV[i]? = some (some (.ref a))) (h : setS σ i k v g = some (r, g')) (rk : Rep C ρ H k kv) (rv : Rep C ρ H v w)
    (q : ∀ σ' H', r = .ok (.next σ') → Fm C H0 ρ0 σ' σV ρ g' H' → Keeps C.K H H' → Qn H') : rSetL (.ref a) kv w H Qn := by
  obtain ⟨l, n, j, e, rfl, hj, rfl, rfl⟩ := setS_some h
  have hs := slot_of e (by intro z; cases z)
  obtain ⟨ws, h5, r5⟩ := F.getI hs hv
  obtain ⟨F2, kp⟩ := F.updML hs hv h5 (r5.set rv j)
  exact ⟨a, ws, n, j, rfl, rk, h5, by rw [r5.len]; exact hj, q _ _ rfl F2 kp⟩
theorem setix_read {mv mk : List Sl → M D} {i : Nat} {E : Ends} (h : liftS C W H0 ρ0 (fun σ => M.bind (mv σ) fun d => M.bind (mlS σ i) fun _ => M.bind (mk σ) fun n => setS σ i n d) E σV H) :
    tAsg (lift C W H0 ρ0 mv) (gSub (fun σV H Q => ∃ v, σV[i]? = some (some v) ∧ Q v H) (lift C W H0 ρ0 mk) rSetL) E σV H := by
  obtain ⟨σ, ρ, g, F, r, g', hm, hk⟩ := h
  rcases bind_some hm with ⟨c, h1, rfl⟩ | ⟨d, g1, h1, h2⟩
  · exact ⟨σ, ρ, g, F, .ex c, g', h1, exc_of (E := True) hk⟩
  refine ⟨σ, ρ, g, F, .ok d, g1, h1, fun ρ1 H1 F1 s1 w rw' => ?_⟩
  rcases bind_some h2 with ⟨c, h3, _⟩ | ⟨l, g2, h3, h4⟩
  · obtain ⟨_, _, z, _⟩ := mlS_some h3
    cases z
  obtain ⟨l', e, ez, eg⟩ := mlS_some h3
  cases ez
  subst eg
  obtain ⟨a, vs, hv, ha, ra, hs⟩ := F1.getL e
  refine ⟨.ref a, hv, ?_⟩
  rcases bind_some h4 with ⟨c, h5, rfl⟩ | ⟨n, g3, h5, h6⟩
  · exact ⟨σ, ρ1, g2, F1, .ex c, g', h5, exc_of (E := True) hk⟩
  refine ⟨σ, ρ1, g2, F1, .ok n, g3, h5, fun ρ2 H2 F2 s2 kv rk => set_fin F2 hv h6 rk (rw'.to (s2.keeps F1.rok) s2.pre) fun σ' H' er F' kp => ?_⟩
  subst er
  exact hk σV ρ2 H' F' (((s1.keeps F.rok).trans (s2.keeps F1.rok)).trans kp) (s1.pre.trans s2.pre)
theorem augI_some {o : Op2} {x y d : D} (h : augI o x y = some d) : ∃ i j, x = .int i ∧ y = .int j ∧ ((o = .add ∧ d = .int (i + j)) ∨ (o = .sub ∧ d = .int (i - j))) := by
  cases o <;> cases x <;> cases y <;> first
    | (cases (Option.some.inj h); exact ⟨_, _, rfl, rfl, .inl ⟨rfl, rfl⟩⟩)
    | (cases (Option.some.inj h); exact ⟨_, _, rfl, rfl, .inr ⟨rfl, rfl⟩⟩)
    | cases h
def ipO : Op2 → TIp
  | .add => ipI fun i j => i + j
  | _ => ipI fun i j => i - j
theorem aug_ip {o : Op2} {x y d : D} {v w : V} {H : Hp} {Q : VK} (h : augI o x y = some d) (rx : Rep C ρ H x v) (ry : Rep C ρ H y w) (q : ∀ u, Rep C ρ H d u → Q u H) : ipO o v w H Q := by
  obtain ⟨i, j, rfl, rfl, ⟨rfl, rfl⟩ | ⟨rfl, rfl⟩⟩ := augI_some h
  · exact ⟨i, j, rx, ry, q _ rfl⟩
  · exact ⟨i, j, rx, ry, q _ rfl⟩
theorem augix_read {mv mk : List Sl → M D} {i : Nat} {o : Op2} {E : Ends} (h : liftS C W H0 ρ0 (fun σ => M.bind (mlS σ i) fun _ => M.bind (mk σ) fun n => M.bind (getS σ i n) fun x => M.bind (mv σ) fun y => M.bind (M.opt (augI o x y)) fun z => setS σ i n z) E σV H) :
    tAugS (fun σV H Q => ∃ v, σV[i]? = some (some v) ∧ Q v H) (lift C W H0 ρ0 mk) (lift C W H0 ρ0 mv) (fun o i H Q => ∃ p xs k v, o = .ref p ∧ i = .int k ∧ H p = some (.lst xs) ∧ atI xs k = some v ∧ Q v H) (ipO o) rSetL E σV H := by
  obtain ⟨σ, ρ, g, F, r, g', hm, hk⟩ := h
  rcases bind_some hm with ⟨c, h1, _⟩ | ⟨l, g1, h1, h2⟩
  · obtain ⟨_, _, z, _⟩ := mlS_some h1
    cases z
  obtain ⟨l', e, ez, eg⟩ := mlS_some h1
  cases ez
  subst eg
  obtain ⟨a, vs, hv, ha, ra, hs⟩ := F.getL e
  refine ⟨.ref a, hv, ?_⟩
  rcases bind_some h2 with ⟨c, h3, rfl⟩ | ⟨n, g2, h3, h4⟩
  · exact ⟨σ, ρ, g1, F, .ex c, g', h3, exc_of (E := True) hk⟩
  refine ⟨σ, ρ, g1, F, .ok n, g2, h3, fun ρ1 H1 F1 s1 kv rk => ?_⟩
  have gx : ∃ x, ixOf (.lst l) n = some x ∧ (M.bind (mv σ) fun y => M.bind (M.opt (augI o x y)) fun z => setS σ i n z) g2 = some (r, g') := by
    rcases bind_some h4 with ⟨c, h5, _⟩ | ⟨x, g3, h5, h6⟩
    · unfold getS at h5
      rw [e] at h5
      obtain ⟨_, _, z, _⟩ := opt_some h5
      cases z
    · unfold getS at h5
      rw [e] at h5
      obtain ⟨x', ex, z, eg⟩ := opt_some h5
      cases z
      subst eg
      exact ⟨x, ex, h6⟩
  obtain ⟨x, ex, h6⟩ := gx
  obtain ⟨ws, h7, r7⟩ := F1.getI hs hv
  cases n with
  | int k =>
    have ex : atI l k = some x := ex
    obtain ⟨xv, ea, rx⟩ := atI_rep r7 ex
    refine ⟨a, ws, k, xv, rfl, rk, h7, ea, ?_⟩
    rcases bind_some h6 with ⟨c, h8, rfl⟩ | ⟨y, g4, h8, h9⟩
    · exact ⟨σ, ρ1, g2, F1, .ex c, g', h8, exc_of (E := True) hk⟩
    refine ⟨σ, ρ1, g2, F1, .ok y, g4, h8, fun ρ2 H2 F2 s2 yv ry => ?_⟩
    rcases bind_some h9 with ⟨c, h10, _⟩ | ⟨z, g5, h10, h11⟩
    · obtain ⟨_, _, z, _⟩ := opt_some h10
      cases z
    obtain ⟨z', e10, ez, eg⟩ := opt_some h10
    cases ez
    subst eg
    refine aug_ip e10 (rx.to (s2.keeps F1.rok) s2.pre) ry fun u ru => set_fin F2 hv h11 (rk.to (s2.keeps F1.rok) s2.pre) ru fun σ' H' er F' kp => ?_
    subst er
    exact hk σV ρ2 H' F' (((s1.keeps F.rok).trans (s2.keeps F1.rok)).trans kp) (s1.pre.trans s2.pre)
  | _ => cases ex
theorem aug_read {me : List Sl → M D} {i : Nat} {o : Op2} {E : Ends} (h : liftS C W H0 ρ0 (fun σ => M.bind (slotD σ i) fun x => M.bind (me σ) fun y => M.bind (M.opt (augI o x y)) fun z => M.pure (.next (σ.set i (.imm z)))) E σV H) :
    tAug i (lift C W H0 ρ0 me) (ipO o) E σV H := by
  obtain ⟨σ, ρ, g, F, r, g', hm, hk⟩ := h
  have gx : ∃ x, slot σ i = .imm x ∧ (M.bind (me σ) fun y => M.bind (M.opt (augI o x y)) fun z => M.pure (Flow'.next (σ.set i (.imm z)))) g = some (r, g') := by
    rcases bind_some hm with ⟨c, h5, _⟩ | ⟨x, g3, h5, h6⟩
    · unfold slotD at h5
      cases e : slot σ i with
      | imm d =>
        rw [e] at h5
        obtain ⟨z, _⟩ := pure_some h5
        cases z
      | _ => rw [e] at h5; cases h5
    · unfold slotD at h5
      cases e : slot σ i with
      | imm d =>
        rw [e] at h5
        obtain ⟨z, eg⟩ := pure_some h5
        cases z
        subst eg
        exact ⟨x, rfl, h6⟩
      | _ => rw [e] at h5; cases h5
  obtain ⟨x, ex, h6⟩ := gx
  obtain ⟨xv, hv, rx⟩ := F.get ex
  refine ⟨xv, hv, ?_⟩
  rcases bind_some h6 with ⟨c, h8, rfl⟩ | ⟨y, g4, h8, h9⟩
  · exact ⟨σ, ρ, g, F, .ex c, g', h8, exc_of (E := True) hk⟩
  refine ⟨σ, ρ, g, F, .ok y, g4, h8, fun ρ2 H2 F2 s2 yv ry => ?_⟩
  rcases bind_some h9 with ⟨c, h10, _⟩ | ⟨z, g5, h10, h11⟩
  · obtain ⟨_, _, z, _⟩ := opt_some h10
    cases z
  obtain ⟨z', e10, ez, eg⟩ := opt_some h10
  cases ez
  subst eg
  obtain ⟨rfl, rfl⟩ := pure_some h11
  exact aug_ip e10 (rx.to (s2.keeps F.rok) s2.pre) ry fun u ru => hk _ ρ2 H2 (F2.set ru) (s2.keeps F.rok) s2.pre
/-! ### if -/
def ifS (mc : List Sl → M D) (ma mb : List Sl → M Flow') : List Sl → M Flow' := fun σ => M.bind (mc σ) fun x => M.bind (M.opt (truth x)) fun t => match t with
  | true => ma σ
  | false => mb σ
theorem sS_ife {c : Expr} {a b : List Stmt} {mc : List Sl → M D} {ma mb : List Sl → M Flow'} {pos : Pos} (hc : PT X c (liftT C W H0 ρ0 (tru mc))) (ha : PSs X a (liftS C W H0 ρ0 ma)) (hb : PSs X b (liftS C W H0 ρ0 mb)) : PS X (.If c a b pos) (liftS C W H0 ρ0 (ifS mc ma mb)) := by
  refine PS.imp (ps_if hc ha hb) fun E σV H h => ?_
  obtain ⟨σ, ρ, g, F, r, g', hm, hk⟩ := h
  unfold ifS at hm
  rw [← M.bind_assoc] at hm
  rcases bind_some hm with ⟨c, h1, rfl⟩ | ⟨t, g1, h1, h2⟩
  · exact ⟨σ, ρ, g, F, .ex c, g', h1, exc_of (E := True) hk⟩
  refine ⟨σ, ρ, g, F, .ok t, g1, h1, fun ρ1 H1 F1 s1 => ?_⟩
  have fin : ∀ m : List Sl → M Flow', m σ g1 = some (r, g') → liftS C W H0 ρ0 m E σV H1 := fun m hmm => by
    refine ⟨σ, ρ1, g1, F1, r, g', hmm, ?_⟩
    cases r with
    | ex c => exact hk
    | ok f =>
      cases f with
      | next σ' => exact fun a b c d e f => hk a b c d ((s1.keeps F.rok).trans e) (s1.pre.trans f)
      | brk σ' => exact fun a b c d e f => hk a b c d ((s1.keeps F.rok).trans e) (s1.pre.trans f)
      | cnt σ' => exact fun a b c d e f => hk a b c d ((s1.keeps F.rok).trans e) (s1.pre.trans f)
      | ret d => exact hk
  cases t with
  | true => exact fin ma h2
  | false => exact fin mb h2
end
end MC
namespace MC
open PySem PySem.Spec L2
section
variable {C : Cn} {W : WX} {H0 : Hp} {ρ0 : Rho} {X : Cx} {σV : L2.St} {σ : List Sl} {ρ ρ' : Rho} {g g' : G} {H H' : Hp}
/-! ### for -/
theorem for_read {mi : List Sl → M (List D)} {body : List Sl → M Flow'} {tg : Tg} {tmp : List Nat} {E : Ends} (h : liftS C W H0 ρ0 (fun σ => M.bind (mi σ) fun items => loopF body tg tmp items σ) E σV H) : tFor (liftI C W H0 ρ0 mi) (gT C.K tg) (liftS C W H0 ρ0 body) E σV H := by
  obtain ⟨σ, ρ, g, F, r, g', hm, hk⟩ := h
  rcases bind_some hm with ⟨c, h1, rfl⟩ | ⟨items, g1, h1, h2⟩
  · exact ⟨σ, ρ, g, F, .ex c, g', h1, exc_of (E := True) hk⟩
  refine ⟨σ, ρ, g, F, .ok items, g1, h1, fun ρ1 H1 F1 s1 J hJ => ?_⟩
  have k01 := s1.keeps (K := C.K) F.rok
  let St (i : Nat) (σVi : L2.St) (Hi : Hp) : Prop := ∃ σi ρi gi, Fm C H0 ρ0 σi σVi ρi gi Hi ∧ Keeps C.K H1 Hi ∧ ρ1 <+: ρi ∧ loopF body tg tmp (items.drop i) σi gi = some (r, g')
  refine ⟨fun i m σVi Hi => m = items.length - i ∧ i ≤ items.length ∧ St i σVi Hi, ⟨items.length, by simp, Nat.zero_le _, σ, ρ1, g1, F1, .refl _, List.prefix_refl _, by simpa using h2⟩, ?_⟩
  rintro i m σVi Hi ⟨rfl, hi, σi, ρi, gi, Fi, ki, pi, hr⟩
  by_cases hlt : i < items.length
  · have hd : items[i]? = some items[i] := List.getElem?_eq_getElem hlt
    rw [drop_cons items i _ hd] at hr
    rcases bind_some hr with ⟨c, h3, _⟩ | ⟨σa, g2, h3, h4⟩
    · obtain ⟨_, _, z, _⟩ := opt_some h3
      cases z
    obtain ⟨σb, e1, ez, eg⟩ := opt_some h3
    cases ez
    subst eg
    refine .inr ⟨hJ.go i Hi ki hlt, St (i + 1), fun σ' H' s' => ⟨items.length - (i + 1), by omega, rfl, hlt, s'⟩, fun x H' y => ?_⟩
    obtain ⟨gr, rx⟩ := hJ.yld i Hi x H' _ ki hd y
    refine put_ok e1 (Fi.grow gr) (rx ρi pi) fun σV2 _ F2 => ?_
    have k2 : Keeps C.K H1 H' := ki.trans gr.keeps
    rcases bind_some h4 with ⟨c, h5, rfl⟩ | ⟨f, g3, h5, h6⟩
    · exact ⟨σa, ρi, g2, F2, .ex c, g', h5, hk⟩
    refine ⟨σa, ρi, g2, F2, .ok f, g3, h5, ?_⟩
    cases f with
    | next σ2 => exact fun σV' ρ' H'' F' k' p' => ⟨clear tmp σ2, ρ', g3, F'.clear tmp, k2.trans k', pi.trans p', h6⟩
    | cnt σ2 => exact fun σV' ρ' H'' F' k' p' => ⟨clear tmp σ2, ρ', g3, F'.clear tmp, k2.trans k', pi.trans p', h6⟩
    | brk σ2 =>
      obtain ⟨rfl, rfl⟩ := pure_some h6
      exact fun σV' ρ' H'' F' k' p' => hk σV' ρ' H'' (F'.clear tmp) (k01.trans (k2.trans k')) (s1.pre.trans (pi.trans p'))
    | ret d =>
      obtain ⟨rfl, rfl⟩ := pure_some h6
      exact hk
  · have e : i = items.length := by omega
    subst e
    rw [List.drop_length] at hr
    obtain ⟨rfl, rfl⟩ := pure_some hr
    exact .inl ⟨hJ.stop Hi ki, hk σVi ρi Hi Fi (k01.trans ki) (s1.pre.trans pi)⟩
/-! ### while -/
theorem while_read {c : List Sl → M Bool} {body : List Sl → M Flow'} {fuel : Nat} {E : Ends} (h : liftS C W H0 ρ0 (fun σ => whilF c body fuel σ) E σV H) : tWhile (liftT C W H0 ρ0 c) (liftS C W H0 ρ0 body) E σV H := by
  obtain ⟨σ, ρ, g, F, r, g', hm, hk⟩ := h
  refine ⟨fun m σVi Hi => ∃ σi ρi gi, Fm C H0 ρ0 σi σVi ρi gi Hi ∧ Keeps C.K H Hi ∧ ρ <+: ρi ∧ whilF c body m σi gi = some (r, g'), ⟨fuel, σ, ρ, g, F, .refl _, List.prefix_refl _, hm⟩, ?_⟩
  rintro m σVi Hi ⟨σi, ρi, gi, Fi, ki, pi, hr⟩
  cases m with
  | zero => cases hr
  | succ m =>
    rcases bind_some hr with ⟨ec, h1, rfl⟩ | ⟨t, g1, h1, h2⟩
    · exact ⟨σi, ρi, gi, Fi, .ex ec, g', h1, exc_of (E := True) hk⟩
    refine ⟨σi, ρi, gi, Fi, .ok t, g1, h1, fun ρ1 H1 F1 s1 => ?_⟩
    have k1 : Keeps C.K H H1 := ki.trans (s1.keeps Fi.rok)
    have p1 : ρ <+: ρ1 := pi.trans s1.pre
    cases t with
    | false =>
      obtain ⟨rfl, rfl⟩ := pure_some h2
      show if false = true then _ else _
      rw [if_neg Bool.false_ne_true]
      exact hk σVi ρ1 H1 F1 k1 p1
    | true =>
      show if true = true then _ else _
      rw [if_pos rfl]
      refine ⟨fun σV' H' => ∃ σi ρi gi, Fm C H0 ρ0 σi σV' ρi gi H' ∧ Keeps C.K H H' ∧ ρ <+: ρi ∧ whilF c body m σi gi = some (r, g'), fun σV' H' n => ⟨m, Nat.lt_succ_self m, n⟩, ?_⟩
      rcases bind_some h2 with ⟨ec, h3, rfl⟩ | ⟨f, g2, h3, h4⟩
      · exact ⟨σi, ρ1, g1, F1, .ex ec, g', h3, hk⟩
      refine ⟨σi, ρ1, g1, F1, .ok f, g2, h3, ?_⟩
      cases f with
      | next σ2 => exact fun σV' ρ' H'' F' k' p' => ⟨σ2, ρ', g2, F', k1.trans k', p1.trans p', h4⟩
      | cnt σ2 => exact fun σV' ρ' H'' F' k' p' => ⟨σ2, ρ', g2, F', k1.trans k', p1.trans p', h4⟩
      | brk σ2 =>
        obtain ⟨rfl, rfl⟩ := pure_some h4
        exact fun σV' ρ' H'' F' k' p' => hk σV' ρ' H'' F' (k1.trans k') (p1.trans p')
      | ret d =>
        obtain ⟨rfl, rfl⟩ := pure_some h4
        exact hk
/-! ### raise -/
theorem sS_raise {x m : Str} {j : Nat} {p p2 p3 pos : Pos} (hc : X.calm = true) (hK : X.K = C.K) (tk : Takes X W) (hg : Gl X x) (hx : ExcOk C.K X.mg x) (hdb : (x == ("__debug__" : Str)) = false) :
    PS X (.Raise (some (.Call (.Name x p) [.Constant (.str m) j p2] [] p3)) none pos) (liftS C W H0 ρ0 fun _ => M.exc x) := by
  obtain ⟨bmB, B, newId, initId, Fa, h1, h2, h3, h4, h5⟩ := hx
  rw [← hK] at h1 h2 h3 h4 h5
  refine PS.imp (ps_raise hc tk (pmk_own Fa h1 h2 h3 (raises_own h4 h5) hg hdb)) fun E σV H h => ?_
  obtain ⟨σ, ρ, g, F, r, g', hm, hk⟩ := h
  have hm : some ((.ex x : R Flow'), g) = some (r, g') := hm
  cases hm
  have := hk σV ρ H F.stp F.sto
  rw [← hK] at this
  exact this
end
end MC
namespace MC
open PySem PySem.Spec L2
section
variable {C : Cn} {W : WX} {H0 : Hp} {ρ0 : Rho} {X : Cx} {σV : L2.St} {σ : List Sl} {ρ ρ' : Rho} {g g' : G} {H H' : Hp}
/-! ### while x, x a changing list -/
theorem sT_ml {x : Str} {i : Nat} {px : Pos} (hK : X.K = C.K) (hN : X.N[i]? = some x) (hv : Vis X.env.scope x) (hd : (x == ("__debug__" : Str)) = false) (hcd : (x == ("__classdict__" : Str)) = false) :
    PT X (.Name x px) (liftT C W H0 ρ0 fun σ => M.bind (mlS σ i) fun l => M.pure (!l.isEmpty)) := by
  refine PT.imp (pt_truth (getL_run hN hv hd hcd) (fun w => rfl)) fun σV H Q h => ?_
  obtain ⟨σ, ρ, g, F, r, g', hm, hk⟩ := h
  rcases bind_some hm with ⟨c, h1, _⟩ | ⟨l, g1, h1, h2⟩
  · obtain ⟨_, _, z, _⟩ := mlS_some h1
    cases z
  obtain ⟨l', e, ez, eg⟩ := mlS_some h1
  cases ez
  subst eg
  obtain ⟨rfl, rfl⟩ := pure_some h2
  obtain ⟨a, vs, hv, ha, ra, hs⟩ := F.getL e
  refine ⟨.ref a, hv, _, ?_, hk ρ H F (.refl _ _)⟩
  rw [hK]
  refine .inl ⟨vs, SqL.of ha, ?_⟩
  have := ra.len
  cases l <;> cases vs <;> simp_all
/-! ### x = {} -/
theorem newd0_read {t : Bool} {i : Nat} {E : Ends} {u : HO} (hu : u = if t then .dT [] else .dK []) (h : liftS C W H0 ρ0 (fun σ => if i < σ.length then M.pure (.next (σ.set i (.md t [] []))) else M.fail) E σV H) : tAsg (fun σV H Q => ∀ p, H p = none → Q (.ref p) (upd H p u)) (gName i) E σV H := by
  obtain ⟨σ, ρ, g, F, r, g', hm, hk⟩ := h
  dsimp only at hm
  split at hm
  · obtain ⟨rfl, rfl⟩ := pure_some hm
    intro p hp
    have F' := F.grow (Grow.upd (o := u) hp)
    have nr : ¬ inRho ρ p := fun z => by
      obtain ⟨kvs, q⟩ := F.rok p z
      rw [hp] at q
      cases q
    refine hk _ ρ _ (F'.setOwn (s' := .md t [] []) ⟨p, u, rfl, upd_same, ?_⟩ (.inl rfl) (F.free hp) nr (no_own F (.of hp))) (Grow.upd hp).keeps (List.prefix_refl _)
    subst hu
    cases t with
    | false => exact .inl ⟨rfl, [], rfl, rfl, rfl⟩
    | true => exact .inr ⟨rfl, [], rfl, rfl, rfl⟩
  · cases hm
theorem sS_newd0 {x : Str} {i : Nat} {t : Bool} {pos px pd : Pos} (hN : X.N.Nodup) (hi : X.N[i]? = some x) (hx : L2.Loc X.env.scope x) (hf : X.fn x = true ∨ X.env.scope.names.lookup x = some .local) :
    PS X (.Assign [.Name x px] (.Dict [] [] pd) pos) (liftS C W H0 ρ0 fun σ => if i < σ.length then M.pure (.next (σ.set i (.md t [] []))) else M.fail) := by
  cases t with
  | false => exact PS.imp (ps_set hN hi hx pe_dnewK (swaps_of rfl _ _ _) hf) fun E σV H h => newd0_read rfl h
  | true => exact PS.imp (ps_set hN hi hx pe_dnewT (swaps_of rfl _ _ _) hf) fun E σV H h => newd0_read rfl h
theorem lift_mono {m : List Sl → M D} {Q Q' : VK} (h : lift C W H0 ρ0 m σV H Q) (k : ∀ v H', Q v H' → Q' v H') : lift C W H0 ρ0 m σV H Q' := by
  obtain ⟨σ, ρ, g, F, r, g', hm, hk⟩ := h
  refine ⟨σ, ρ, g, F, r, g', hm, ?_⟩
  cases r with
  | ok d => exact fun ρ' H' F' s' v rv => k _ _ (hk ρ' H' F' s' v rv)
  | ex c => exact hk
/-! ### {k: v} -/
/-- what one entry asks -/
def Dsp1 (p : Addr) (Q : VK) (x y : V) (H2 : Hp) : Prop := H2 p = some (.dT []) ∧ ∃ b ks, x = .ref b ∧ H2 b = some (.tup (ks.map kV)) ∧ Q (.ref p) (upd H2 p (.dT [(ks, y)]))
open PyProof.Rows in
/-- one entry, its key a tuple -/
theorem pe_disp1T {k v : Expr} {mk mv : List Sl → M D} {pos : Pos} (hu : X.A.units + 65 < cLine) (hk : PE X k (lift C W H0 ρ0 mk)) (hv : PE X v (lift C W H0 ρ0 mv)) :
    PE X (.Dict [some k] [v] pos) (fun σ H Q => ∀ p, H p = none → lift C W H0 ρ0 mk σ (upd H p (.dT [])) fun x H1 => lift C W H0 ρ0 mv σ H1 fun y H2 => Dsp1 p Q x y H2) := by
  refine ⟨fun pins s σ H Q I q => ?_⟩
  have hn := I.hok.fresh (Nat.le_refl s.heap.objs.size)
  have I1 := I.laid (a := s.heap.objs.size) (o := .dT []) (h' := s.heap.push { cls := .type "dict", data := .dict #[] }) (t' := s.toks) (fun _ _ q => Heap.get?_push_of_some _ q) (Nat.le_refl _) (dt_empty s.heap I.big)
  have P : PPs X pos [some k] [v] [(lift C W H0 ρ0 mk, lift C W H0 ρ0 mv)] := pps_cons hk hv pps_nil
  have q0 := q _ hn
  generalize hp : s.heap.objs.size = p at I1 q0
  have q1 : tPairs [(lift C W H0 ρ0 mk, lift C W H0 ρ0 mv)] σ (upd H p (.dT [])) fun ps H2 => ∃ x y, ps = [(x, y)] ∧ Dsp1 p Q x y H2 := by
    show lift C W H0 ρ0 mk σ (upd H p (.dT [])) fun x H1 => lift C W H0 ρ0 mv σ H1 fun y H2 => ∃ x' y', [(x, y)] = [(x', y')] ∧ Dsp1 p Q x' y' H2
    exact lift_mono q0 fun x H1 z => lift_mono z fun y H2 z => ⟨x, y, rfl, z⟩
  have R := P.run pins _ σ _ _ I1 q1
  have hl : (pairTrees [some k] [v] X.env pos).length = 1 := rfl
  have hne : pairTrees [some k] [v] X.env pos ≠ [] := fun z => by rw [z] at hl; cases hl
  rw [arm_eval_Dict, zip_pairTrees [some k] [v] X.env pos rfl rfl, dictDisplay_pairs (pairTrees [some k] [v] X.env pos) hne (by rw [hl]; omega)]
  generalize pairTrees [some k] [v] X.env pos = trees at R hl
  refine wpAny_bind (wpAny_standAt (wpAny_bind (wpAny_subDictH (knd := tupleKind (mixKind X.prog X.w)) (by show X.A.units < cLine; omega) (by rw [hl]; omega) ?_)))
  refine thn R fun ws s2 hh => ?_
  obtain ⟨ps, H2, I2, rel, x, y, eps, e, b, ks, rfl, hb, q2⟩ := hh
  subst eps
  cases rel with
  | cons r t =>
    cases t
    rename_i kw
    obtain ⟨rx, ry⟩ := r
    obtain ⟨z, hd, xs, r0, dd⟩ := dt_of I2.hok e
    cases r0
    have eb : kw.1 = Value.ref b := rx
    rw [hp]
    refine ⟨[(ks, b, kw.2)], ⟨eb, rfl, key_of I2.hok hb, trivial⟩, dd, fun h' tk' dd' hs => wpAny_pure ⟨.ref p, _, ?_, rfl, q2⟩⟩
    obtain ⟨o, es, ep, ho, h2, h3, h4, _, h5⟩ := dd'
    refine d_write I2 (by rw [e]; exact True.intro) hs ⟨o, ho⟩ ⟨by rw [sizeLine_eq]; show 1 ≤ _; omega, hd, [(ks, b, kw.2)], .cons ⟨rfl, ?_, ry⟩ .nil, o, es, ep, ho, h2, h3, h4, h5⟩
    rw [upd_ne (ne_of hb e (fun z => nomatch z))]
    exact hb
/-- x = {k: v} -/
theorem newd1_read {t : Bool} {mk mv : List Sl → M D} {i : Nat} {E : Ends} (h : liftS C W H0 ρ0 (fun σ => M.bind (mk σ) fun x => M.bind (mv σ) fun y => M.bind (M.opt (dPut t [] [] x y)) fun p => if i < σ.length then M.pure (.next (σ.set i (.md t p.1 p.2))) else M.fail) E σV H) (u0 : HO) (hu0 : ∀ p, H p = none → DcR C ρ0 (upd H p u0) t [] [] u0 ∧ IsDc u0) :
    ∀ p, H p = none → lift C W H0 ρ0 mk σV (upd H p u0) fun x H1 => lift C W H0 ρ0 mv σV H1 fun y H2 => H2 p = some u0 ∧ ∃ ρ2 dx dy ks ds, dPut t [] [] dx dy = some (ks, ds) ∧ Rep C ρ2 H2 dx x ∧ Rep C ρ2 H2 dy y ∧ ∀ u', DcR C ρ2 H2 t ks ds u' → gName i (.ref p) σV (upd H2 p u') E.nx := by
  intro p hp
  obtain ⟨σ, ρ, g, F, r, g', hm, hk⟩ := h
  have gw : Grow H (upd H p u0) := Grow.upd hp
  have F0 := F.grow gw
  rcases bind_some hm with ⟨c, h1, rfl⟩ | ⟨dx, g1, h1, h2⟩
  · exact ⟨σ, ρ, g, F0, .ex c, g', h1, exc_of (E := True) hk⟩
  refine ⟨σ, ρ, g, F0, .ok dx, g1, h1, fun ρ1 H1 F1 s1 x rx => ?_⟩
  rcases bind_some h2 with ⟨c, h3, rfl⟩ | ⟨dy, g2, h3, h4⟩
  · exact ⟨σ, ρ1, g1, F1, .ex c, g', h3, exc_of (E := True) hk⟩
  refine ⟨σ, ρ1, g1, F1, .ok dy, g2, h3, fun ρ2 H2 F2 s2 y ry => ?_⟩
  rcases bind_some h4 with ⟨c, h5, _⟩ | ⟨pp, g3, h5, h6⟩
  · obtain ⟨_, _, z, _⟩ := opt_some h5
    cases z
  obtain ⟨⟨ks, ds⟩, e, ez, eg⟩ := opt_some h5
  cases ez
  subst eg
  dsimp only at h6
  split at h6
  · obtain ⟨rfl, rfl⟩ := pure_some h6
    have nr0 : ¬ inRho ρ p := fun z => by
      obtain ⟨kvs, q⟩ := F.rok p z
      rw [hp] at q
      cases q
    obtain ⟨dc0, idc⟩ := hu0 p hp
    have st := s1.trans s2
    have hp2 : H2 p = some u0 := st.ext.at_ p u0 upd_same nr0 dc0.nt
    have nr2 : ¬ inRho ρ2 p := fun z => by
      rcases st.new p z with z | z
      · exact nr0 z
      · exact dc0.nt (z u0 upd_same).1
    refine ⟨hp2, ρ2, dx, dy, ks, ds, e, rx.to (s2.keeps F1.rok) s2.pre, ry, fun u' dc' => ?_⟩
    have n0 := F.free hp
    have no : ∀ (j : Nat) s ov, σ[j]? = some s → σV[j]? = some ov → own s ov ≠ some p := no_own F (.of hp)
    have kp : Keeps C.K H2 (upd H2 p u') := by
      rcases idc with ⟨kvs, rfl⟩ | ⟨kvs, rfl⟩ <;> exact keeps_updD hp2 (fun _ z => by cases z) (fun _ _ z => by cases z) fun _ _ _ z => by cases z
    have F3 : Fm C H0 ρ0 σ σV ρ2 g' (upd H2 p u') := by
      refine ⟨F2.len, fun j s ov h1 h2 => (F2.rep j s ov h1 h2).to kp (List.prefix_refl _) fun b w hb q _ => ?_, F2.sep, F2.new, (F2.stp.updF n0).ext, F2.pre, F2.nrh, F2.sto.updN hp2 dc0.nc nr2⟩
      rw [upd_ne (fun z : b = p => no j s ov h1 h2 (by rw [← z]; exact hb))]
      exact q
    exact hk _ ρ2 _ (F3.setOwn (s' := .md t ks ds) ⟨p, u', rfl, upd_same, dc'.to kp (List.prefix_refl _)⟩ (.inl rfl) n0 nr2 no) ((gw.keeps.trans (st.keeps F0.rok)).trans kp) st.pre
  · cases h6
theorem dPut_nilK {x v : D} {ks ds : List D} (h : dPut false [] [] x v = some (ks, ds)) : ∃ k, x = keyD k ∧ ks = [keyD k] ∧ ds = [v] := by
  unfold dPut at h
  split at h
  · obtain ⟨k, e, e2⟩ := Option.map_eq_some_iff.mp h
    cases (show ([] ++ [x], [] ++ [v]) = (ks, ds) from e2)
    exact ⟨k, keyD_of e, by rw [keyD_of e]; rfl, rfl⟩
  · cases h
theorem dPut_nilT {x v : D} {ks ds : List D} (h : dPut true [] [] x v = some (ks, ds)) : ∃ k, x = keyTD k ∧ ks = [keyTD k] ∧ ds = [v] := by
  unfold dPut at h
  split at h
  · obtain ⟨k, e, e2⟩ := Option.map_eq_some_iff.mp h
    cases (show ([] ++ [x], [] ++ [v]) = (ks, ds) from e2)
    exact ⟨k, keyTD_of e, by rw [keyTD_of e]; rfl, rfl⟩
  · cases h
theorem sS_newd1 {x : Str} {i : Nat} {t : Bool} {k v : Expr} {mk mv : List Sl → M D} {pos px pd : Pos} (hu : X.A.units + 65 < cLine) (hN : X.N.Nodup) (hi : X.N[i]? = some x) (hx : L2.Loc X.env.scope x) (hf : X.fn x = true ∨ X.env.scope.names.lookup x = some .local) (hk : PE X k (lift C W H0 ρ0 mk)) (hv : PE X v (lift C W H0 ρ0 mv)) :
    PS X (.Assign [.Name x px] (.Dict [some k] [v] pd) pos) (liftS C W H0 ρ0 fun σ => M.bind (mk σ) fun x => M.bind (mv σ) fun y => M.bind (M.opt (dPut t [] [] x y)) fun p => if i < σ.length then M.pure (.next (σ.set i (.md t p.1 p.2))) else M.fail) := by
  cases t with
  | false =>
    refine PS.imp (ps_set hN hi hx (pe_disp (pps_cons hk hv pps_nil) rfl rfl (fun z => by cases z) (by show 1 ≤ 15; omega)) (swaps_of rfl _ _ _) hf) fun E σV H h => ?_
    intro p hp
    refine lift_mono (newd1_read h (.dK []) (fun p _ => ⟨.inl ⟨rfl, [], rfl, rfl, rfl⟩, .inl ⟨_, rfl⟩⟩) p hp) fun x H1 q => lift_mono q fun y H2 ⟨e, ρ2, dx, dy, ks, ds, hput, rx, ry, q3⟩ => ?_
    obtain ⟨kk, rfl, rfl, rfl⟩ := dPut_nilK hput
    have ex := rep_key rx
    subst ex
    exact ⟨e, [(kk, y)], rfl, by show 1 ≤ 15; omega, q3 _ (.inl ⟨rfl, [(kk, y)], rfl, rfl, .one ry⟩)⟩
  | true =>
    refine PS.imp (ps_set hN hi hx (pe_disp1T hu hk hv) (swaps_of rfl _ _ _) hf) fun E σV H h => ?_
    intro p hp
    refine lift_mono (newd1_read h (.dT []) (fun p _ => ⟨.inr ⟨rfl, [], rfl, rfl, rfl⟩, .inr ⟨_, rfl⟩⟩) p hp) fun x H1 q => lift_mono q fun y H2 ⟨e, ρ2, dx, dy, ks, ds, hput, rx, ry, q3⟩ => ?_
    obtain ⟨kk, rfl, rfl, rfl⟩ := dPut_nilT hput
    obtain ⟨b, rfl, hb⟩ := rep_keyT rx
    exact ⟨e, b, kk, rfl, hb, q3 _ (.inr ⟨rfl, [(kk, y)], rfl, rfl, .one ry⟩)⟩
end
end MC
namespace MC
open PySem PySem.Spec L2
section
variable {C : Cn} {W : WX} {H0 : Hp} {ρ0 : Rho} {X : Cx} {σV : L2.St} {σ : List Sl} {ρ ρ' : Rho} {g g' : G} {H H' : Hp}
theorem asgSub_of {o i : Expr} {pos : Pos} {env : Env} (h : okE i = true) : ∀ v, assign (.Subscript o i pos) env v = (do
      let ov ← holding [v] (eval o env)
      let iv ← holding [v, ov] (eval i env)
      standAt pos
      holding [v, ov, iv] (setItem ov iv v)
      release [v, ov, iv] []) := by
  cases i <;> first | (intro _; rfl) | cases h
/-! ### d[k] = v -/
theorem putS_some {i : Nat} {k v : D} {r : R Flow'} (h : putS σ i k v g = some (r, g')) : ∃ t ks vs ks' vs', slot σ i = .md t ks vs ∧ dPut t ks vs k v = some (ks', vs') ∧ r = .ok (.next (σ.set i (.md t ks' vs'))) ∧ g' = g := by
  unfold putS at h
  cases e : slot σ i with
  | md t ks vs =>
    rw [e] at h
    rcases bind_some h with ⟨c, h1, _⟩ | ⟨p, g1, h1, h2⟩
    · obtain ⟨_, _, z, _⟩ := opt_some h1
      cases z
    obtain ⟨⟨ks', vs'⟩, e1, ez, eg⟩ := opt_some h1
    cases ez
    subst eg
    obtain ⟨rfl, rfl⟩ := pure_some h2
    exact ⟨t, ks, vs, ks', vs', rfl, e1, rfl, rfl⟩
  | _ => rw [e] at h; cases h
theorem setk_read {mv mk : List Sl → M D} {i : Nat} {E : Ends} (h : liftS C W H0 ρ0 (fun σ => M.bind (mv σ) fun d => M.bind (mdS σ i) fun _ => M.bind (mk σ) fun n => putS σ i n d) E σV H) :
    sDPut (tVar i) (lift C W H0 ρ0 mk) (lift C W H0 ρ0 mv) E σV H := by
  obtain ⟨σ, ρ, g, F, r, g', hm, hk⟩ := h
  rcases bind_some hm with ⟨c, h1, rfl⟩ | ⟨d, g1, h1, h2⟩
  · exact ⟨σ, ρ, g, F, .ex c, g', h1, exc_of (E := True) hk⟩
  refine ⟨σ, ρ, g, F, .ok d, g1, h1, fun ρ1 H1 F1 s1 w rw' => ?_⟩
  rcases bind_some h2 with ⟨c, h3, _⟩ | ⟨x0, g2, h3, h4⟩
  · obtain ⟨_, _, _, _, _, z⟩ := mdS_some h3
    cases z
  obtain ⟨eg, t, ks, vs, el, _⟩ := mdS_some h3
  subst eg
  obtain ⟨a, u, hv, ha, dc, hs⟩ := F1.getD el
  refine ⟨.ref a, hv, ?_⟩
  rcases bind_some h4 with ⟨c, h5, rfl⟩ | ⟨n, g3, h5, h6⟩
  · exact ⟨σ, ρ1, g2, F1, .ex c, g', h5, exc_of (E := True) hk⟩
  refine ⟨σ, ρ1, g2, F1, .ok n, g3, h5, fun ρ2 H2 F2 s2 kv rk => ?_⟩
  obtain ⟨t', ks1, vs1, ks', vs', e1, e2, rfl, rfl⟩ := putS_some h6
  rw [el] at e1
  cases e1
  obtain ⟨u2, h7, dc2⟩ := F2.getDI hs hv
  obtain ⟨u', dp, dc'⟩ := dc_put (a := a) dc2 h7 rk (rw'.to (s2.keeps F1.rok) s2.pre) e2
  obtain ⟨F3, kp⟩ := F2.updMD hs hv h7 dc2 dc'
  exact ⟨a, _, rfl, dp, hk σV ρ2 _ F3 (((s1.keeps F.rok).trans (s2.keeps F1.rok)).trans kp) (s1.pre.trans s2.pre)⟩
theorem sS_setk {x : Str} {i : Nat} {k v : Expr} {mk mv : List Sl → M D} {p p2 pos : Pos} (hu : X.A.units + 1 < cLine) (hN : X.N[i]? = some x) (hv' : Vis X.env.scope x) (hd : (x == ("__debug__" : Str)) = false) (hcd : (x == ("__classdict__" : Str)) = false) (nc : noComp v = true) (hk : PE X k (lift C W H0 ρ0 mk)) (hv : PE X v (lift C W H0 ρ0 mv)) :
    PS X (.Assign [.Subscript (.Name x p) k p2] v pos) (liftS C W H0 ρ0 fun σ => M.bind (mv σ) fun d => M.bind (mdS σ i) fun _ => M.bind (mk σ) fun n => putS σ i n d) :=
  PS.imp (ps_dput hu (getL_run hN hv' hd hcd) hk hv (swaps_of nc _ _ _)) fun E σV H h => setk_read h
/-! ### y = x.pop() -/
theorem popS_some {i j : Nat} {r : R Flow'} (h : popS σ i j g = some (r, g')) : ∃ l d, slot σ i = .ml l ∧ l.getLast? = some d ∧ j < σ.length ∧ r = .ok (.next ((σ.set i (.ml l.dropLast)).set j (.imm d))) ∧ g' = g := by
  unfold popS at h
  cases e : slot σ i with
  | ml l =>
    rw [e] at h
    cases e2 : l.getLast? with
    | none =>
      have h : (match l.getLast? with
        | some d => if j < σ.length then M.pure (Flow'.next ((σ.set i (.ml l.dropLast)).set j (.imm d))) else M.fail
        | none => M.fail) g = some (r, g') := h
      rw [e2] at h
      cases h
    | some d =>
      have h : (match l.getLast? with
        | some d => if j < σ.length then M.pure (Flow'.next ((σ.set i (.ml l.dropLast)).set j (.imm d))) else M.fail
        | none => M.fail) g = some (r, g') := h
      rw [e2] at h
      dsimp only at h
      split at h
      · obtain ⟨rfl, rfl⟩ := pure_some h
        exact ⟨l, d, rfl, e2, by assumption, rfl, rfl⟩
      · cases h
  | _ => rw [e] at h; cases h
theorem Reps.dropLast {l : List D} {vs : List V} (h : Reps C ρ H l vs) : Reps C ρ H l.dropLast vs.dropLast := by
  rw [List.dropLast_eq_take, List.dropLast_eq_take, h.len]
  exact h.take _
theorem pop_read {i j : Nat} {E : Ends} (hK : X.K = C.K) (h : liftS C W H0 ρ0 (fun σ => popS σ i j) E σV H) : tAsg (tBM0 X.K "list" rPop (tVar i)) (gName j) E σV H := by
  obtain ⟨σ, ρ, g, F, r, g', hm, hk⟩ := h
  obtain ⟨l, d, el, e2, hj, rfl, rfl⟩ := popS_some hm
  obtain ⟨a, vs, hv, ha, ra, hs⟩ := F.getL el
  have hlast : l[l.length - 1]? = some d := by rw [← List.getLast?_eq_getElem?]; exact e2
  obtain ⟨y, hy, ry⟩ := ra.get hlast
  rw [← ra.len] at hy
  refine ⟨.ref a, hv, .inl ⟨rfl, vs, SqL.of ha⟩, a, vs, y, rfl, rfl, ha, hy, ?_⟩
  obtain ⟨F2, kp⟩ := F.updML hs hv ha ra.dropLast
  exact hk _ ρ _ (F2.set (ry.to kp (List.prefix_refl _))) kp (List.prefix_refl _)
theorem sS_pop {x y : Str} {i j : Nat} {p px pa pc pos : Pos} (hK : X.K = C.K) (hN : X.N[i]? = some x) (hv : Vis X.env.scope x) (hd : (x == ("__debug__" : Str)) = false) (hcd : (x == ("__classdict__" : Str)) = false) (hl : (pa.endLine == pc.line) = true)
    (nd : X.N.Nodup) (hj : X.N[j]? = some y) (hx : L2.Loc X.env.scope y) (hf : X.fn y = true ∨ X.env.scope.names.lookup y = some .local) :
    PS X (.Assign [.Name y px] (.Call (.Attribute (.Name x p) "pop" pa) [] [] pc) pos) (liftS C W H0 ρ0 fun σ => popS σ i j) :=
  PS.imp (ps_set nd hj hx (pe_bm0 PySem.F.plainAttrs_list PySem.F.slot_list_pop PySem.F.type_list_pop mt_pop (getL_run hN hv hd hcd) rfl hl) (swaps_of rfl _ _ _) hf) fun E σV H h => pop_read hK h
/-! ### xs[i], xs[j] = a, b -/
theorem sw_sub {a b k1 k2 o1 o2 : Expr} {p1 p2 pt p3 : Pos} {kt k3 : Nat} {env : Env} : swappedStores [.Tuple [.Subscript o1 k1 p1, .Subscript o2 k2 p2] kt pt] (.Tuple [a, b] k3 p3) env = pure none := by
  unfold swappedStores
  simp only [List.filterMap_cons, List.filterMap_nil, List.length_cons, List.length_nil]
  split
  · rfl
  split
  · rfl
  rfl
/-- a store into slot i's list, from a state on -/
theorem set2_read {mv1 mv2 mk1 mk2 : List Sl → M D} {i : Nat} {E : Ends} (hK : X.K = C.K) (h : liftS C W H0 ρ0 (fun σ => M.bind (mv1 σ) fun x => M.bind (mv2 σ) fun y => M.bind (mlS σ i) fun _ => M.bind (mk1 σ) fun a => M.bind (setS σ i a x) fun f => match f with
      | .next σ1 => M.bind (mlS σ1 i) fun _ => M.bind (mk2 σ1) fun b => setS σ1 i b y
      | _ => M.fail) E σV H) :
    tAsg (lift C W H0 ρ0 fun σ => M.bind (mv1 σ) fun x => M.bind (mv2 σ) fun y => M.pure (.tup [x, y])) (gTup X.K 2 (gCons (gSub (tVar i) (lift C W H0 ρ0 mk1) rSetL) (gCons (gSub (tVar i) (lift C W H0 ρ0 mk2) rSetL) gNil))) E σV H := by
  obtain ⟨σ, ρ, g, F, r, g', hm, hk⟩ := h
  rcases bind_some hm with ⟨c, h1, rfl⟩ | ⟨x, g1, h1, h2⟩
  · refine ⟨σ, ρ, g, F, .ex c, g', ?_, exc_of (E := True) hk⟩
    show M.bind (mv1 σ) _ g = _
    unfold M.bind
    rw [h1]
  rcases bind_some h2 with ⟨c, h3, rfl⟩ | ⟨y, g2, h3, h4⟩
  · refine ⟨σ, ρ, g, F, .ex c, g', ?_, exc_of (E := True) hk⟩
    show M.bind (mv1 σ) _ g = _
    unfold M.bind
    rw [h1]
    dsimp only
    rw [h3]
  refine ⟨σ, ρ, g, F, .ok (.tup [x, y]), g2, ?_, fun ρ1 H1 F1 s1 v rv => ?_⟩
  · show M.bind (mv1 σ) _ g = _
    unfold M.bind
    rw [h1]
    dsimp only
    rw [h3]
    rfl
  obtain ⟨t, ws, rfl, qt, r1⟩ := rv
  obtain ⟨vx, w1, rfl, rx, r2⟩ := r1
  obtain ⟨vy, w2, rfl, ry, er⟩ := r2
  cases (show w2 = [] from er)
  refine ⟨t, [vx, vy], rfl, SqT.of qt, rfl, vx, [vy], rfl, ?_⟩
  rcases bind_some h4 with ⟨c, h5, _⟩ | ⟨l, g3, h5, h6⟩
  · obtain ⟨_, _, z, _⟩ := mlS_some h5
    cases z
  obtain ⟨l', e, ez, eg⟩ := mlS_some h5
  cases ez
  subst eg
  obtain ⟨a, vs, hv, ha, ra, hs⟩ := F1.getL e
  refine ⟨.ref a, hv, ?_⟩
  rcases bind_some h6 with ⟨c, h7, rfl⟩ | ⟨k1, g4, h7, h8⟩
  · exact ⟨σ, ρ1, g3, F1, .ex c, g', h7, exc_of (E := True) hk⟩
  refine ⟨σ, ρ1, g3, F1, .ok k1, g4, h7, fun ρ2 H2 F2 s2 kv rk => ?_⟩
  rcases bind_some h8 with ⟨c, h9, _⟩ | ⟨f, g5, h9, h10⟩
  · obtain ⟨_, _, _, _, _, _, z, _⟩ := setS_some h9
    cases z
  refine set_fin F2 hv h9 rk (rx.to (s2.keeps F1.rok) s2.pre) fun σ1 H3 er F3 kp => ?_
  cases er
  refine ⟨vy, [], rfl, ?_⟩
  have h10 : (M.bind (mlS σ1 i) fun _ => M.bind (mk2 σ1) fun b => setS σ1 i b y) g5 = some (r, g') := h10
  rcases bind_some h10 with ⟨c, h11, _⟩ | ⟨l2, g6, h11, h12⟩
  · obtain ⟨_, _, z, _⟩ := mlS_some h11
    cases z
  obtain ⟨l2', e2, ez, eg⟩ := mlS_some h11
  cases ez
  subst eg
  obtain ⟨a2, vs2, hv2, ha2, ra2, hs2⟩ := F3.getL e2
  refine ⟨.ref a2, hv2, ?_⟩
  rcases bind_some h12 with ⟨c, h13, rfl⟩ | ⟨k2, g7, h13, h14⟩
  · exact ⟨σ1, ρ2, g6, F3, .ex c, g', h13, exc_of (E := True) hk⟩
  refine ⟨σ1, ρ2, g6, F3, .ok k2, g7, h13, fun ρ4 H4 F4 s4 kv2 rk2 => ?_⟩
  refine set_fin F4 hv2 h14 rk2 (((ry.to (s2.keeps F1.rok) s2.pre).to kp (List.prefix_refl _)).to (s4.keeps F3.rok) s4.pre) fun σ' H5 er F5 kp5 => ⟨rfl, ?_⟩
  subst er
  exact hk σV ρ4 H5 F5 (((((s1.keeps F.rok).trans (s2.keeps F1.rok)).trans kp).trans (s4.keeps F3.rok)).trans kp5) ((s1.pre.trans s2.pre).trans s4.pre)
theorem sS_set2 {x : Str} {i : Nat} {a b k1 k2 : Expr} {mv1 mv2 mk1 mk2 : List Sl → M D} {pt p1 p2 q1 q2 pos pv : Pos} {kt kv : Nat} (hK : X.K = C.K) (hc : X.calm = true) (hN : X.N[i]? = some x) (hv : Vis X.env.scope x) (hd : (x == ("__debug__" : Str)) = false) (hcd : (x == ("__classdict__" : Str)) = false)
    (oa : okE a = true) (ob : okE b = true) (o1 : okE k1 = true) (o2 : okE k2 = true) (ha : PE X a (lift C W H0 ρ0 mv1)) (hb : PE X b (lift C W H0 ρ0 mv2)) (h1 : PE X k1 (lift C W H0 ρ0 mk1)) (h2 : PE X k2 (lift C W H0 ρ0 mk2)) :
    PS X (.Assign [.Tuple [.Subscript (.Name x p1) k1 q1, .Subscript (.Name x p2) k2 q2] kt pt] (.Tuple [a, b] kv pv) pos) (liftS C W H0 ρ0 fun σ => M.bind (mv1 σ) fun x => M.bind (mv2 σ) fun y => M.bind (mlS σ i) fun _ => M.bind (mk1 σ) fun a => M.bind (setS σ i a x) fun f => match f with
      | .next σ1 => M.bind (mlS σ1 i) fun _ => M.bind (mk2 σ1) fun b => setS σ1 i b y
      | _ => M.fail) := by
  have ht : PE X (.Tuple [a, b] kv pv) (lift C W H0 ρ0 fun σ => M.bind (mv1 σ) fun x => M.bind (mv2 σ) fun y => M.pure (.tup [x, y])) := by
    refine lift_eq (sE_tup (sA_cons oa ha (sA_cons ob hb sA_nil)) fun σ g ds g' e => ?_) fun σ => ?_
    · rcases bind_some e with ⟨c, _, z⟩ | ⟨x, g1, _, e1⟩
      · cases z
      rcases bind_some e1 with ⟨c, _, z⟩ | ⟨xs, g2, e2, e3⟩
      · cases z
      rcases bind_some e2 with ⟨c, _, z⟩ | ⟨y, g3, _, e4⟩
      · cases z
      rcases bind_some e4 with ⟨c, _, z⟩ | ⟨ys, g5, e5, e6⟩
      · cases z
      obtain ⟨z1, _⟩ := pure_some e5
      obtain ⟨z2, _⟩ := pure_some e6
      obtain ⟨z3, _⟩ := pure_some e3
      cases z1
      cases z2
      cases z3
      show 2 ≤ 1000
      omega
    · rw [M.bind_assoc]
      congr 1
      funext x
      rw [M.bind_assoc, M.bind_assoc]
      congr 1
  exact PS.imp (ps_asg ht (pg_tup hc (pgs_cons (pg_sub (getL_run hN hv hd hcd) h1 set_list (asgSub_of o1)) (pgs_cons (pg_sub (getL_run hN hv hd hcd) h2 set_list (asgSub_of o2)) pgs_nil))) rfl sw_sub rfl) fun E σV H h => set2_read hK h
/-! ### a, b = x, y; each for good, or a list that stays open -/
/-- how a part is read -/
def liftMd (C : Cn) (W : WX) (H0 : Hp) (ρ0 : Rho) (b : Bool) (m : List Sl → M D) : TE := match b with
  | false => lift C W H0 ρ0 m
  | true => liftN C W H0 ρ0 fun σ => M.bind (m σ) asL
/-- the part's value, since Hs -/
def MdV (C : Cn) (b : Bool) (Hs : Hp) (ρ : Rho) (H : Hp) (d : D) (v : V) : Prop := match b with
  | false => Rep C ρ H d v
  | true => ∃ l p vs, d = .lst l ∧ v = .ref p ∧ Fre C.tb Hs p ∧ H p = some (.lst vs) ∧ Reps C ρ H l vs
theorem MdV.to {b : Bool} {Hs : Hp} {d : D} {v : V} {ρ1 : Rho} {H1 : Hp} (h : MdV C b Hs ρ H d v) (ok : RhoOk ρ H) (s : Stp C.tb ρ H ρ1 H1) : MdV C b Hs ρ1 H1 d v := by
  cases b with
  | false => exact Rep.to (s.keeps ok) s.pre h
  | true =>
    obtain ⟨l, p, vs, e1, e2, e3, e4, r⟩ := h
    exact ⟨l, p, vs, e1, e2, e3, s.ext.at_ p _ e4 (tup_not ok e4 (fun _ z => by cases z)) (fun z => z), r.to (s.keeps ok) s.pre⟩
/-- a part is run -/
theorem md_run {b : Bool} {m : List Sl → M D} {d : D} {g1 : G} {Q : VK} (F : Fm C H0 ρ0 σ σV ρ g H) (hm : m σ g = some (.ok d, g1)) (hb : b = true → ∃ l, d = .lst l) (k : ∀ ρ1 H1 v, Fm C H0 ρ0 σ σV ρ1 g1 H1 → Stp C.tb ρ H ρ1 H1 → MdV C b H ρ1 H1 d v → Q v H1) : liftMd C W H0 ρ0 b m σV H Q := by
  cases b with
  | false => exact ⟨σ, ρ, g, F, .ok d, g1, hm, fun ρ1 H1 F1 s1 v rv => k ρ1 H1 v F1 s1 rv⟩
  | true =>
    obtain ⟨l, rfl⟩ := hb rfl
    refine ⟨σ, ρ, g, F, .ok l, g1, ?_, fun p vs ρ1 H1 hp st so e rv => k ρ1 H1 _ (F.step st so) st ⟨l, p, vs, rfl, rfl, hp, e, rv⟩⟩
    show M.bind (m σ) asL g = _
    unfold M.bind
    rw [hm]
    rfl
theorem md_exc {b : Bool} {m : List Sl → M D} {c : Str} {g1 : G} {Q : VK} (F : Fm C H0 ρ0 σ σV ρ g H) (hm : m σ g = some (.ex c, g1)) (hw : ∀ ρ' H', Fm C H0 ρ0 σ σV ρ' g1 H' → W (.ref (He.ga C.K c)) none σV H') : liftMd C W H0 ρ0 b m σV H Q := by
  cases b with
  | false => exact ⟨σ, ρ, g, F, .ex c, g1, hm, hw⟩
  | true =>
    refine ⟨σ, ρ, g, F, .ex c, g1, ?_, hw⟩
    show M.bind (m σ) asL g = _
    unfold M.bind
    rw [hm]
theorem setM_some {i : Nat} {b : Bool} {d : D} {r : R (List Sl)} (h : setM σ i b d g = some (r, g')) : ∃ s, r = .ok (σ.set i s) ∧ g' = g ∧ i < σ.length ∧ ((b = false ∧ s = .imm d) ∨ (b = true ∧ ∃ l, d = .lst l ∧ s = .ml l)) := by
  unfold setM at h
  split at h
  · rename_i hi
    cases b with
    | false =>
      obtain ⟨rfl, rfl⟩ := pure_some h
      exact ⟨_, rfl, rfl, hi, .inl ⟨rfl, rfl⟩⟩
    | true =>
      cases d with
      | lst l =>
        obtain ⟨rfl, rfl⟩ := pure_some (show M.pure (σ.set i (.ml l)) g = some (r, g') from h)
        exact ⟨_, rfl, rfl, hi, .inr ⟨rfl, l, rfl, rfl⟩⟩
      | _ => cases h
  · cases h
theorem par2_read {m1 m2 : Bool} {ma mb : List Sl → M D} {i j : Nat} {E : Ends} (hij : i ≠ j) (h : liftS C W H0 ρ0 (fun σ => M.bind (ma σ) fun x => M.bind (M.opt (mdOk m1 x)) fun _ => M.bind (mb σ) fun y => M.bind (setM σ i m1 x) fun σ' => M.bind (setM σ' j m2 y) fun σ'' => M.pure (.next σ'')) E σV H) :
    tPar i j (tCons (liftMd C W H0 ρ0 m1 ma) (tCons (liftMd C W H0 ρ0 m2 mb) tNil)) E σV H := by
  obtain ⟨σ, ρ, g, F, r, g', hm, hk⟩ := h
  rcases bind_some hm with ⟨c, h1, rfl⟩ | ⟨x, g1, h1, h2⟩
  · exact md_exc F h1 (exc_of (E := True) hk)
  have hx : ∀ (y : D) (g2 : G), (M.bind (setM σ i m1 x) fun σ' => M.bind (setM σ' j m2 y) fun σ'' => M.pure (Flow'.next σ'')) g2 = some (r, g') → ∃ s t, r = .ok (.next ((σ.set i s).set j t)) ∧ g' = g2 ∧ i < σ.length ∧ j < σ.length ∧ ((m1 = false ∧ s = .imm x) ∨ (m1 = true ∧ ∃ l, x = .lst l ∧ s = .ml l)) ∧ ((m2 = false ∧ t = .imm y) ∨ (m2 = true ∧ ∃ l, y = .lst l ∧ t = .ml l)) := fun y g2 h => by
    rcases bind_some h with ⟨c, h3, _⟩ | ⟨σ1, g3, h3, h4⟩
    · obtain ⟨_, z, _⟩ := setM_some h3
      cases z
    obtain ⟨s, ez, eg, hi, hs⟩ := setM_some h3
    cases ez
    subst eg
    rcases bind_some h4 with ⟨c, h5, _⟩ | ⟨σ2, g4, h5, h6⟩
    · obtain ⟨_, z, _⟩ := setM_some h5
      cases z
    obtain ⟨t, ez, eg, hj, ht⟩ := setM_some h5
    cases ez
    subst eg
    obtain ⟨rfl, rfl⟩ := pure_some h6
    exact ⟨s, t, rfl, rfl, hi, by simpa using hj, hs, ht⟩
  rcases bind_some h2 with ⟨c, h0, _⟩ | ⟨_, g1', h0, h2'⟩
  · obtain ⟨_, _, z, _⟩ := opt_some h0
    cases z
  obtain ⟨_, e0, _, eg⟩ := opt_some h0
  subst eg
  have hb1 : m1 = true → ∃ l, x = .lst l := fun hb => by
    subst hb
    cases x with
    | lst l => exact ⟨l, rfl⟩
    | _ => cases e0
  refine md_run F h1 hb1 fun ρ1 H1 v F1 s1 mv => ?_
  rcases bind_some h2' with ⟨c, h3, rfl⟩ | ⟨y, g2, h3, h4⟩
  · exact md_exc F1 h3 (exc_of (E := True) hk)
  obtain ⟨s, t, rfl, rfl, hi, hj, hs, ht⟩ := hx y g2 h4
  refine md_run F1 h3 (fun hb => ?_) fun ρ2 H2 w F2 s2 mw => ⟨v, w, rfl, ?_⟩
  · rcases ht with ⟨z, _⟩ | ⟨_, l, e, _⟩
    · rw [hb] at z; cases z
    · exact ⟨l, e⟩
  have mv2 := mv.to F1.rok s2
  have kp := (s1.keeps F.rok).trans (s2.keeps (K := C.K) F1.rok)
  -- slot i
  have Fi : Fm C H0 ρ0 (σ.set i s) (σV.set i (some v)) ρ2 g' H2 := by
    rcases hs with ⟨rfl, rfl⟩ | ⟨rfl, l, rfl, rfl⟩
    · exact F2.set mv2
    · obtain ⟨l', p, vs, e1, rfl, e3, e4, rr⟩ := mv2
      cases e1
      exact F2.setML e4 rr (F.freeF e3) (no_own F e3)
  refine hk _ ρ2 H2 ?_ kp (s1.pre.trans s2.pre)
  rcases ht with ⟨rfl, rfl⟩ | ⟨rfl, l, rfl, rfl⟩
  · exact Fi.set mw
  · obtain ⟨l', p, vs, e1, rfl, e3, e4, rr⟩ := mw
    cases e1
    refine Fi.setML e4 rr (F1.freeF e3) fun k sk ov h1 h2 z => ?_
    rcases set_split h1 h2 with ⟨rfl, rfl, rfl⟩ | ⟨_, q1, q2⟩
    · rcases hs with ⟨rfl, rfl⟩ | ⟨rfl, l2, rfl, rfl⟩
      · rw [own_imm] at z
        cases z
      · obtain ⟨_, p1, vs1, _, rfl, _, e5, _⟩ := mv
        have : p1 = p := Option.some.inj z
        subst this
        exact (e3 _ e5).1
    · exact no_own F1 e3 k sk ov q1 q2 z
theorem sS_par2 {x y : Str} {i j : Nat} {m1 m2 : Bool} {a b : Expr} {ma mb : List Sl → M D} {px py pt p2 pos : Pos} {kt k2 : Nat} (hc : X.calm = true) (hN : X.N.Nodup) (hi : X.N[i]? = some x) (hj : X.N[j]? = some y) (hij : i ≠ j) (hx : X.env.scope.names.lookup x = some .local) (hy : X.env.scope.names.lookup y = some .local)
    (hw : swappedStores [.Tuple [.Name x px, .Name y py] kt pt] (.Tuple [a, b] k2 p2) X.env = pure (some [x, y])) (oa : okE a = true) (ob : okE b = true) (ha : PE X a (liftMd C W H0 ρ0 m1 ma)) (hb : PE X b (liftMd C W H0 ρ0 m2 mb)) :
    PS X (.Assign [.Tuple [.Name x px, .Name y py] kt pt] (.Tuple [a, b] k2 p2) pos) (liftS C W H0 ρ0 fun σ => M.bind (ma σ) fun x => M.bind (M.opt (mdOk m1 x)) fun _ => M.bind (mb σ) fun y => M.bind (setM σ i m1 x) fun σ' => M.bind (setM σ' j m2 y) fun σ'' => M.pure (.next σ'')) :=
  PS.imp (ps_par hc hN hi hj hij hx hy (pa_cons ha (pa_cons hb pa_nil (star_of ob _ _)) (star_of oa _ _)) hw rfl) fun E σV H h => par2_read hij h
end
end MC
namespace MC
open PySem PySem.Spec L2
section
variable {C : Cn} {W : WX} {H0 : Hp} {ρ0 : Rho} {X : Cx} {σV : L2.St} {σ : List Sl} {ρ ρ' : Rho} {g g' : G} {H H' : Hp}
/-! ### dicts of tests -/
abbrev XP3 := Str × Str × List Str
def xkv (c : Str) (ps : List XP3) : List (Key × V) := ps.map fun p => (.inr p.1, V.bl (p.2.2.contains c))
theorem put_one {ks ds ks' ds' : List D} {kvs : List (Key × V)} {k : Key} {x v : D} {w : V} (hk : keyOf x = some k) (ek : ks = kvs.map fun p => keyD p.1) (r : Reps C ρ H ds (kvs.map (·.2))) (rv : Rep C ρ H v w) (e : dPut false ks ds x v = some (ks', ds')) :
    kvs.length < sizeLine ∧ ks' = (putK kvs k w).map (fun p => keyD p.1) ∧ Reps C ρ H ds' ((putK kvs k w).map (·.2)) := by
  unfold dPut at e
  split at e
  · rename_i hl
    subst ek
    obtain ⟨k', ek', e⟩ := Option.map_eq_some_iff.mp e
    rw [hk] at ek'
    cases ek'
    rw [keyD_of hk] at e
    obtain ⟨p1, p2⟩ := putK_rep rv r e
    exact ⟨by simpa using hl, p1, p2⟩
  · cases e
theorem xput_rep {c : Str} : ∀ {ps : List XP3} {kvs : List (Key × V)} {ks ds ks' ds' : List D}, xput c ps ks ds = some (ks', ds') → ks = kvs.map (fun p => keyD p.1) → Reps C ρ H ds (kvs.map (·.2)) →
    ks' = (mergeK kvs (xkv c ps)).map (fun p => keyD p.1) ∧ Reps C ρ H ds' ((mergeK kvs (xkv c ps)).map (·.2))
  | [], kvs, ks, ds, ks', ds', e, ek, r => by
    cases (Option.some.inj e : (ks, ds) = (ks', ds'))
    exact ⟨ek, r⟩
  | (k, q, l) :: ps, kvs, ks, ds, ks', ds', e, ek, r => by
    obtain ⟨⟨k1, d1⟩, e1, e2⟩ := Option.bind_eq_some_iff.mp (show ((dPut false ks ds (.str k) (.bl (l.contains c))).bind fun p => xput c ps p.1 p.2) = some (ks', ds') from e)
    obtain ⟨_, p1, p2⟩ := put_one (C := C) (ρ := ρ) (H := H) (k := .inr k) (v := .bl (l.contains c)) (w := V.bl (l.contains c)) rfl ek r rfl e1
    exact xput_rep (kvs := putK kvs (.inr k) (V.bl (l.contains c))) e2 p1 p2
theorem dMerge_rep : ∀ {more kvs : List (Key × V)} {es ks ds ks' ds' : List D}, dMerge (more.map fun p => keyD p.1) es ks ds = some (ks', ds') → Reps C ρ H es (more.map (·.2)) → ks = kvs.map (fun p => keyD p.1) → Reps C ρ H ds (kvs.map (·.2)) →
    ks' = (mergeK kvs more).map (fun p => keyD p.1) ∧ Reps C ρ H ds' ((mergeK kvs more).map (·.2))
  | [], kvs, es, ks, ds, ks', ds', e, re, ek, r => by
    have z : es = [] := by
      have := re.len
      cases es with
      | nil => rfl
      | cons => simp at this
    subst z
    cases (Option.some.inj (show some (ks, ds) = some (ks', ds') from e) : (ks, ds) = (ks', ds'))
    exact ⟨ek, r⟩
  | kv :: more, kvs, es, ks, ds, ks', ds', e, re, ek, r => by
    match es, re with
    | v :: es, ⟨w, ws, ew, rv, rs⟩ =>
      have ew : kv.2 :: more.map (·.2) = w :: ws := ew
      cases ew
      obtain ⟨⟨k1, d1⟩, e1, e2⟩ := Option.bind_eq_some_iff.mp (show ((dPut false ks ds (keyD kv.1) v).bind fun p => dMerge (more.map fun p => keyD p.1) es p.1 p.2) = some (ks', ds') from e)
      obtain ⟨_, p1, p2⟩ := put_one (k := kv.1) (keyOf_D kv.1) ek r rv e1
      exact dMerge_rep (kvs := putK kvs kv.1 kv.2) e2 rs p1 p2
/-- the pairs of the display, one by one -/
inductive XPairs (X : Cx) (K : PySem.W.Frag) (x : Str) : List XP3 → List (Option Expr) → List Expr → Prop where
  | nil : XPairs X K x [] [] []
  | cons {k c : Str} {ds : List Str} {ps : List XP3} {ks : List (Option Expr)} {vs : List Expr} {j : Nat} {p1 p2 p3 p4 p5 : Pos} : Gl X c → XisOk K X.mg c ds → c ≠ "__name__" → (c == ("__debug__" : Str)) = false → XPairs X K x ps ks vs →
      XPairs X K x ((k, c, ds) :: ps) (some (.Constant (.str k) j p1) :: ks) (.Call (.Name "isinstance" p2) [.Name x p3, .Name c p4] [] p5 :: vs)
theorem XPairs.len {x : Str} {ps : List XP3} {ks : List (Option Expr)} {vs : List Expr} (h : XPairs X C.K x ps ks vs) : ks.length = ps.length ∧ vs.length = ps.length ∧ ks.all (·.isSome) = true := by
  induction h with
  | nil => exact ⟨rfl, rfl, rfl⟩
  | cons _ _ _ _ _ ih => exact ⟨congrArg (· + 1) ih.1, congrArg (· + 1) ih.2.1, ih.2.2⟩
/-- an error of the class c lies at slot j -/
def XAt (K : PySem.W.Frag) (σV : L2.St) (H : Hp) (j : Nat) (c : Str) : Prop := ∃ a oe u fs, σV[j]? = some (some (.ref a)) ∧ H a = some (.frz oe u) ∧ Zc (.ref (He.ga K c)) none oe ∧ oe.data = .fields fs
theorem pps_x {j : Nat} {x : Str} {pos : Pos} (hK : X.K = C.K) (hN : X.N[j]? = some x) (hv : Vis X.env.scope x) (hd : (x == ("__debug__" : Str)) = false) (hcd : (x == ("__classdict__" : Str)) = false) (hg : Gl X "isinstance") (hm : X.mg "isinstance" = none) :
    ∀ {ps : List XP3} {ks : List (Option Expr)} {vs : List Expr}, XPairs X C.K x ps ks vs → ∃ trs, PPs X pos ks vs trs ∧ ∀ (σV : L2.St) (H : Hp) (c n : Str) (Q : List (V × V) → Hp → Prop), XAt C.K σV H j c → xnm.lookup c = some n → Q ((xkv c ps).map fun kv => (kV kv.1, kv.2)) H → tPairs trs σV H Q := by
  intro ps ks vs h
  induction h with
  | nil => exact ⟨[], pps_nil, fun σV H c n Q _ _ q => q⟩
  | @cons k c ds ps ks vs jj p1 p2 p3 p4 p5 h1 h2 h3 h4 h5 ih =>
    obtain ⟨trs, q1, q2⟩ := ih
    obtain ⟨v, cv, rv, un, mc, all⟩ := h2
    have hc : PE X (.Name c p4) (tC v) := by
      rcases mc with q | ⟨q1, q2⟩
      · exact pe_glob h1 q rv h4
      · exact pe_bltn h1 q1 q2 rv h3 h4
    have he := pe_callB (p := p2) (pos := p5) call_isX hg hm (by decide +kernel) (pa_cons (getL_run (pos := p3) hN hv hd hcd) (pa_cons hc pa_nil) (star_of rfl _ _)) (by decide) (by decide) (star_of rfl _ _) rfl
    refine ⟨_, pps_cons pe_str he q1, fun σV H d n Q hx hn hq => ?_⟩
    obtain ⟨a, oe, u, fs, e1, e2, e3, e4⟩ := hx
    obtain ⟨w1, w2⟩ := all d n hn
    refine ⟨.ref a, e1, ?_⟩
    rw [hK]
    exact ⟨a, _, oe, u, fs, v, cv, _, rfl, e2, e3, e4, w1, un, w2, q2 σV H d n _ ⟨a, oe, u, fs, e1, e2, e3, e4⟩ hn hq⟩
/-- x = {k: isinstance(y, c), ..} -/
theorem sS_newx {x y : Str} {i j : Nat} {ps : List XP3} {ks : List (Option Expr)} {vs : List Expr} {pos px pd : Pos} (hK : X.K = C.K) (hN : X.N.Nodup) (hi : X.N[i]? = some x) (hx : L2.Loc X.env.scope x) (hf : X.fn x = true ∨ X.env.scope.names.lookup x = some .local)
    (hj : X.N[j]? = some y) (hv : Vis X.env.scope y) (hd : (y == ("__debug__" : Str)) = false) (hcd : (y == ("__classdict__" : Str)) = false) (hg : Gl X "isinstance") (hm : X.mg "isinstance" = none) (h : XPairs X C.K y ps ks vs) (h0 : ps ≠ []) (h15 : ps.length ≤ 15) :
    PS X (.Assign [.Name x px] (.Dict ks vs pd) pos) (liftS C W H0 ρ0 fun σ => M.bind (M.opt (newxS σ i j ps)) fun σ1 => M.pure (.next σ1)) := by
  obtain ⟨trs, P, hq⟩ := pps_x (pos := pd) hK hj hv hd hcd hg hm h
  obtain ⟨l1, l2, l3⟩ := h.len
  refine PS.imp (ps_set hN hi hx (pe_disp P l3 (l1.trans l2.symm) (fun z => by rw [z] at l1; exact h0 (List.length_eq_zero_iff.mp l1.symm)) (by rw [l1]; exact h15)) (swaps_of rfl _ _ _) hf) fun E σV H h => ?_
  obtain ⟨σ, ρ, g, F, r, g', hm', hk⟩ := h
  rcases bind_some hm' with ⟨c, z, _⟩ | ⟨σ1, g1, z1, z2⟩
  · obtain ⟨_, _, z, _⟩ := opt_some z
    cases z
  obtain ⟨σ2, e, ez, eg⟩ := opt_some z1
  cases ez
  subst eg
  obtain ⟨rfl, rfl⟩ := pure_some z2
  unfold newxS at e
  split at e
  · rename_i c es
    split at e
    · rename_i hs
      obtain ⟨n, hn⟩ := Option.isSome_iff_exists.mp hs.1
      obtain ⟨⟨k1, d1⟩, e1, e2⟩ := Option.bind_eq_some_iff.mp e
      cases e2
      intro p hp
      obtain ⟨w, hw, a, oe, u, fs, rfl, ha, hz, hfs⟩ := F.get es
      refine hq σV _ c n _ ⟨a, oe, u, fs, hw, by rw [upd_ne (ne_of_none ha hp)]; exact ha, hz, hfs⟩ hn ⟨upd_same, xkv c ps, rfl, by unfold xkv; rw [List.length_map]; exact h15, ?_⟩
      obtain ⟨r1, r2⟩ := xput_rep (C := C) (ρ := ρ) (H := H) (kvs := []) e1 rfl rfl
      have ez : upd (upd H p (.dK [])) p (.dK (mergeK [] (xkv c ps))) = upd H p (.dK (mergeK [] (xkv c ps))) := by
        funext b
        by_cases hb : b = p
        · rw [hb, upd_same, upd_same]
        · rw [upd_ne hb, upd_ne hb, upd_ne hb]
      rw [ez]
      have F' := F.grow (Grow.upd (o := .dK (mergeK [] (xkv c ps))) hp)
      have nr : ¬ inRho ρ p := fun z => by
        obtain ⟨kvs, q⟩ := F.rok p z
        rw [hp] at q
        cases q
      exact hk _ ρ _ (F'.setOwn (s' := .md false k1 d1) ⟨p, _, rfl, upd_same, .inl ⟨rfl, _, rfl, r1, r2.to (Grow.upd hp).keeps (List.prefix_refl _)⟩⟩ (.inl rfl) (F.free hp) nr (no_own F (.of hp))) (Grow.upd hp).keeps (List.prefix_refl _)
    · cases e
  · cases e
open PyProof.Rows in
/-- d.update(e) -/
theorem mt_upd {X : Cx} : MtR X "dict.update" (fun x xs H Q => ∃ (a b : Addr) (kvs more : List (Key × V)), x = .ref a ∧ xs = [.ref b] ∧ a ≠ b ∧ H a = some (.dK kvs) ∧ H b = some (.dK more) ∧ kvs.length + more.length ≤ sizeLine ∧ Q .non (upd H a (.dK (mergeK kvs more)))) := by
  intro pins s σ H x xs v us Q I rx rs h
  obtain ⟨a, b, kvs, more, rfl, rfl, hab, ha, hb, hl, q⟩ := h
  cases rx
  match us, rs with
  | [_], .cons rb .nil =>
    cases rb
    obtain ⟨z1, hd1, vs1, r1, dd1⟩ := dk_of I.hok ha
    obtain ⟨z2, hd2, vs2, r2, dd2⟩ := dk_of I.hok hb
    refine call_meetsIn PySem.F.slot_dict_update dd1.typeIs PySem.F.entry_dict_update (PySem.F.args_dict_update_2 _ _) (meets_dict_update (mixKind X.prog X.w) a b hab hd2) ⟨vs1, vs2, dd1, dd2, by rw [← r1.length, ← r2.length]; exact hl, fun h' d1 d2 hs => ?_⟩
    have he : ∃ o, h'.get? a = some o := let ⟨o, _, _, ho, _⟩ := d1; ⟨o, ho⟩
    have hz : (mergeK kvs more).length ≤ sizeLine := Nat.le_trans (length_mergeK more kvs) hl
    exact ⟨.non, _, d_write (t' := s.toks) I (by rw [ha]; exact True.intro) hs he (dk_new hz hd1 (r2.merge r1) d1), rfl, q⟩
/-- x.update({k: isinstance(y, c), ..}) -/
theorem sS_updx {x y : Str} {i j : Nat} {ps : List XP3} {ks : List (Option Expr)} {vs : List Expr} {pos px pa pc pd : Pos} (hK : X.K = C.K) (hi : X.N[i]? = some x) (hvx : Vis X.env.scope x) (hdx : (x == ("__debug__" : Str)) = false) (hcx : (x == ("__classdict__" : Str)) = false)
    (hj : X.N[j]? = some y) (hv : Vis X.env.scope y) (hd : (y == ("__debug__" : Str)) = false) (hcd : (y == ("__classdict__" : Str)) = false) (hg : Gl X "isinstance") (hm : X.mg "isinstance" = none) (h : XPairs X C.K y ps ks vs) (h0 : ps ≠ []) (h15 : ps.length ≤ 15) (hl : (pa.endLine == pc.line) = true) :
    PS X (.Expr (.Call (.Attribute (.Name x px) "update" pa) [.Dict ks vs pd] [] pc) pos) (liftS C W H0 ρ0 fun σ => M.bind (M.opt (updxS σ i j ps)) fun σ1 => M.pure (.next σ1)) := by
  obtain ⟨trs, P, hq⟩ := pps_x (pos := pd) hK hj hv hd hcd hg hm h
  obtain ⟨l1, l2, l3⟩ := h.len
  have hD := pe_disp P l3 (l1.trans l2.symm) (fun z => by rw [z] at l1; exact h0 (List.length_eq_zero_iff.mp l1.symm)) (by rw [l1]; exact h15)
  refine PS.imp (ps_expr (pe_bm PySem.F.plainAttrs_dict PySem.F.slot_dict_update PySem.F.type_dict_update mt_upd (getL_run hi hvx hdx hcx) (pa_cons hD pa_nil (star_of rfl _ _)) rfl (few_of rfl _ _) hl (star_of rfl _ _) rfl) rfl) fun E σV H h => ?_
  obtain ⟨σ, ρ, g, F, r, g', hm', hk⟩ := h
  rcases bind_some hm' with ⟨c, z, _⟩ | ⟨σ1, g1, z1, z2⟩
  · obtain ⟨_, _, z, _⟩ := opt_some z
    cases z
  obtain ⟨σ2, e, ez, eg⟩ := opt_some z1
  cases ez
  subst eg
  obtain ⟨rfl, rfl⟩ := pure_some z2
  unfold updxS at e
  split at e
  · rename_i k0 d0 c em es
    split at e
    · rename_i hs
      obtain ⟨n, hn⟩ := Option.isSome_iff_exists.mp hs.1
      obtain ⟨⟨k1, d1⟩, e1, e2⟩ := Option.bind_eq_some_iff.mp e
      obtain ⟨⟨k2, d2⟩, e3, e4⟩ := Option.bind_eq_some_iff.mp e2
      cases e4
      obtain ⟨b, ub, hvb, hb, dcb, hsb⟩ := F.getD em
      obtain ⟨_, kvs, rfl, ek0, r0⟩ | ⟨z, _⟩ := id dcb
      · refine ⟨.ref b, hvb, .inr (.inr (.inl ⟨rfl, .inl ⟨kvs, hb⟩⟩)), fun p hp => ?_⟩
        obtain ⟨w, hw, a, oe, u, fs, rfl, ha, hz, hfs⟩ := F.get es
        refine hq σV _ c n _ ⟨a, oe, u, fs, hw, by rw [upd_ne (ne_of_none ha hp)]; exact ha, hz, hfs⟩ hn ⟨upd_same, xkv c ps, rfl, by unfold xkv; rw [List.length_map]; exact h15, ?_⟩
        obtain ⟨r1, r2⟩ := xput_rep (C := C) (ρ := ρ) (H := H) (kvs := []) e1 rfl rfl
        have ez : upd (upd H p (.dK [])) p (.dK (mergeK [] (xkv c ps))) = upd H p (.dK (mergeK [] (xkv c ps))) := by
          funext b
          by_cases hb : b = p
          · rw [hb, upd_same, upd_same]
          · rw [upd_ne hb, upd_ne hb, upd_ne hb]
        rw [ez]
        have nbp := ne_of_none hb hp
        have F' := F.grow (Grow.upd (o := .dK (mergeK [] (xkv c ps))) hp)
        have kp := (Grow.upd (o := .dK (mergeK [] (xkv c ps))) hp).keeps (K := C.K)
        have hb' : upd H p (.dK (mergeK [] (xkv c ps))) b = some (.dK kvs) := by rw [upd_ne nbp]; exact hb
        refine ⟨b, p, kvs, mergeK [] (xkv c ps), rfl, rfl, nbp, hb', upd_same, ?_, ?_⟩
        · have q1 := length_mergeK (xkv c ps) []
          have q2 : k0.length = kvs.length := by rw [ek0, List.length_map]
          have q3 : (xkv c ps).length = ps.length := List.length_map _
          have q4 := hs.2
          rw [List.length_nil] at q1
          omega
        · rw [r1] at e3
          obtain ⟨w1, w2⟩ := dMerge_rep e3 r2 ek0 r0
          have dc1 : DcR C ρ (upd H p (.dK (mergeK [] (xkv c ps)))) false k0 d0 (.dK kvs) := dcb.to kp (List.prefix_refl _)
          obtain ⟨F3, kp3⟩ := F'.updMD (u' := .dK (mergeK kvs (mergeK [] (xkv c ps)))) hsb hvb hb' dc1 (.inl ⟨rfl, _, rfl, w1, w2.to kp (List.prefix_refl _)⟩)
          exact hk σV ρ _ F3 (kp.trans kp3) (List.prefix_refl _)
      · cases z
    · cases e
  · cases e
end
end MC
namespace MC
open PySem PySem.Spec L2
def lcB (sc : Scope) (x : Str) : Bool := match sc.names.lookup x with
  | some .local => true
  | _ => false
theorem lc_of {sc : Scope} {x : Str} (h : lcB sc x = true) : sc.names.lookup x = some .local := by
  unfold lcB at h
  split at h <;> simp_all
/-- a list of this frame, by its name -/
def mlB (Γ : Gam) (i : Nat) (x : Str) : Bool := decide (Γ.N[i]? = some x) && visB Γ.sc x && !(x == ("__debug__" : Str)) && !(x == ("__classdict__" : Str))
def augB : Op2 → Operator → Bool
  | .add, .Add => true
  | .sub, .Sub => true
  | _, _ => false
variable (T : Tab)
/-- the pairs of a display of tests of y -/
def chkX (Γ : Gam) (y : Str) : List XP3 → List (Option Expr) → List Expr → Bool
  | [], ks, vs => match ks, vs with
    | [], [] => true
    | _, _ => false
  | (k, c, ds) :: ps, ks, vs => match ks, vs with
    | some (.Constant (.str k') _ _) :: ks, .Call (.Name f _) [.Name y' _, .Name c' _] [] _ :: vs => decide (k' = k) && decide (f = "isinstance") && decide (y' = y) && decide (c' = c) && T.xs.contains (c, ds) && glB Γ.sc c && !decide (c = "__name__") && !(c == ("__debug__" : Str)) && chkX Γ y ps ks vs
    | _, _ => false
def chkXj (Γ : Gam) (j : Nat) (ps : List XP3) (ks : List (Option Expr)) (vs : List Expr) : Bool := match Γ.N[j]? with
  | some y => mlB Γ j y && chkX T Γ y ps ks vs && T.bl.contains "isinstance" && glB Γ.sc "isinstance" && !ps.isEmpty && decide (ps.length ≤ 15)
  | none => false
/-- what makes a new list -/
def chkN (Γ : Gam) : E → Expr → Bool
  | .lst es, ex => match ex with
    | .List _ _ => chkE T Γ (.lst es) ex
    | _ => false
  | .op o a b, ex => match ex with
    | .BinOp x .Add y _ => decide (o = .add) && chkE T Γ a x && chkE T Γ b y
    | .BinOp x .Mult y _ => decide (o = .mul) && chkE T Γ a x && chkE T Γ b y
    | _ => false
  | .prim p es, ex => match ex with
    | .Call (.Name x _) [y] [] _ => decide (p = .list) && decide (x = "list") && T.bl.contains x && glB Γ.sc x && okE y && chkEs T Γ es [y]
    | _ => false
  | .comp elt tg own it cs, ex => match ex with
    | .ListComp _ _ _ _ => chkE T Γ (.comp elt tg own it cs) ex
    | _ => false
  | _, _ => false
def chkMd (Γ : Gam) : Bool → E → Expr → Bool
  | false, e, x => chkE T Γ e x
  | true, e, x => chkN T Γ e x
mutual
def chkS (Γ : Gam) : S → Stmt → Bool
  | .asg tg e, st => match st with
    | .Assign [.Name x px] ex _ => chkG Γ tg (.Name x px) && noComp ex && chkE T Γ e ex
    | .Assign [.Tuple es kk px] ex _ => chkG Γ tg (.Tuple es kk px) && noComp ex && noTup ex && chkE T Γ e ex
    | _ => false
  | .par is es, st => match is, st with
    | [i, j], .Assign [.Tuple [.Name x px, .Name y py] _ _] (.Tuple [a, b] _ _) _ => decide (Γ.N[i]? = some x) && decide (Γ.N[j]? = some y) && decide (i ≠ j) && lcB Γ.sc x && lcB Γ.sc y && (py.line == px.line) && !(x == y) && okE a && okE b && !([a, b].all (foldedForSure 8)) && !([a, b].all (constantsAlone 8)) && chkEs T Γ es [a, b]
    | _, _ => false
  | .new i e, st => match st with
    | .Assign [.Name x px] ex _ => chkG Γ (.n i) (.Name x px) && chkN T Γ e ex
    | _ => false
  | .fz _, _ => false
  | .clr _, _ => false
  | .setix i k v, st => match st with
    | .Assign [.Subscript (.Name x _) kx _] vx _ => mlB Γ i x && okE kx && noComp vx && chkE T Γ k kx && chkE T Γ v vx
    | _ => false
  | .augix i o k v, st => match st with
    | .AugAssign (.Subscript (.Name x _) kx _) op vx _ => mlB Γ i x && okE kx && augB o op && chkE T Γ k kx && chkE T Γ v vx
    | _ => false
  | .aug i o e, st => match st with
    | .AugAssign (.Name x px) op ex _ => chkG Γ (.n i) (.Name x px) && augB o op && chkE T Γ e ex
    | _ => false
  | .app i e, st => match st with
    | .Expr (.Call (.Attribute (.Name x _) at_ pa) [ex] [] pc) _ => decide (at_ = "append") && mlB Γ i x && okE ex && (pa.endLine == pc.line) && chkE T Γ e ex
    | _ => false
  | .ext i e, st => match st with
    | .Expr (.Call (.Attribute (.Name x _) at_ pa) [ex] [] pc) _ => decide (at_ = "extend") && mlB Γ i x && okE ex && (pa.endLine == pc.line) && chkE T Γ e ex
    | _ => false
  | .ife c a b, st => match st with
    | .If cx as bs _ => okT cx && chkE T Γ c cx && chkSs Γ a as && chkSs Γ b bs
    | _ => false
  | .forr tg it b _, st => match st with
    | .For tge iter body [] _ => okE iter && chkI T Γ it tge iter && chkG Γ tg tge && chkSs Γ b body
    | _ => false
  | .whilL i b, st => match st with
    | .While (.Name x _) body [] _ => mlB Γ i x && chkSs Γ b body
    | _ => false
  | .newd i t none, st => match st with
    | .Assign [.Name x px] (.Dict [] [] _) _ => chkG Γ (.n i) (.Name x px)
    | _ => false
  | .newd i t (some (k, v)), st => match st with
    | .Assign [.Name x px] (.Dict [some kx] [vx] _) _ => chkG Γ (.n i) (.Name x px) && chkE T Γ k kx && chkE T Γ v vx
    | _ => false
  | .setk i k v, st => match st with
    | .Assign [.Subscript (.Name x _) kx _] vx _ => mlB Γ i x && noComp vx && chkE T Γ k kx && chkE T Γ v vx
    | _ => false
  | .pop i j, st => match st with
    | .Assign [.Name y py] (.Call (.Attribute (.Name x _) at_ pa) [] [] pc) _ => decide (at_ = "pop") && mlB Γ i x && (pa.endLine == pc.line) && chkG Γ (.n j) (.Name y py)
    | _ => false
  | .par2 i j m1 m2 a b, st => match st with
    | .Assign [.Tuple [.Name x px, .Name y py] _ _] (.Tuple [ax, bx] _ _) _ => decide (Γ.N[i]? = some x) && decide (Γ.N[j]? = some y) && decide (i ≠ j) && lcB Γ.sc x && lcB Γ.sc y && (py.line == px.line) && !(x == y) && okE ax && okE bx && !([ax, bx].all (foldedForSure 8)) && !([ax, bx].all (constantsAlone 8)) && chkMd T Γ m1 a ax && chkMd T Γ m2 b bx
    | _ => false
  | .newx i j ps, st => match st with
    | .Assign [.Name x px] (.Dict ks vs _) _ => chkG Γ (.n i) (.Name x px) && chkXj T Γ j ps ks vs
    | _ => false
  | .updx i j ps, st => match st with
    | .Expr (.Call (.Attribute (.Name x _) at_ pa) [.Dict ks vs _] [] pc) _ => decide (at_ = "update") && mlB Γ i x && (pa.endLine == pc.line) && chkXj T Γ j ps ks vs
    | _ => false
  | .set2 i k1 k2 v1 v2, st => match st with
    | .Assign [.Tuple [.Subscript (.Name x _) kx1 _, .Subscript (.Name y _) kx2 _] _ _] (.Tuple [vx1, vx2] _ _) _ => decide (x = y) && mlB Γ i x && okE vx1 && okE vx2 && okE kx1 && okE kx2 && chkE T Γ v1 vx1 && chkE T Γ v2 vx2 && chkE T Γ k1 kx1 && chkE T Γ k2 kx2
    | _ => false
  | .whil c b, st => match st with
    | .While cx body [] _ => okT cx && chkE T Γ c cx && chkSs Γ b body
    | _ => false
  | .ret e, st => match st with
    | .Return (some ex) _ => chkE T Γ e ex
    | _ => false
  | .exp e, st => match st with
    | .Expr ex _ => noComp ex && chkE T Γ e ex
    | _ => false
  | .raise c, st => match st with
    | .Raise (some (.Call (.Name x _) [.Constant (.str _) _ _] [] _)) none _ => decide (x = c) && T.ex.contains x && glB Γ.sc x && !(x == ("__debug__" : Str))
    | _ => false
  | .brk, st => match st with
    | .Break _ => true
    | _ => false
  | .cnt, st => match st with
    | .Continue _ => true
    | _ => false
def chkSs (Γ : Gam) : List S → List Stmt → Bool
  | [], sts => match sts with
    | [] => true
    | _ => false
  | s :: r, sts => match s with
    | .fz _ => chkSs Γ r sts
    | .clr _ => chkSs Γ r sts
    | s => match sts with
      | st :: l => chkS Γ s st && chkSs Γ r l
      | _ => false
end
end MC
namespace MC
open PySem PySem.Spec L2
section
variable {T : Tab} {C : Cn} {Φ : Nat → List D → M D} {H0 : Hp} {ρ0 : Rho} {Γ : Gam} {X : Cx} {W : WX} {fuel : Nat}
structure GoodS (T : Tab) (C : Cn) (Φ : Nat → List D → M D) (Γ : Gam) (X : Cx) (W : WX) : Prop extends Good T C Φ Γ X W where
  kind : X.env.scope.kind = .function
  own : PassesOwn (model X.prog X.w) X.A X.env X.xe
theorem Good.ml (Gd : Good T C Φ Γ X W) {i : Nat} {x : Str} (h : mlB Γ i x = true) : X.N[i]? = some x ∧ Vis X.env.scope x ∧ (x == ("__debug__" : Str)) = false ∧ (x == ("__classdict__" : Str)) = false := by
  unfold mlB at h
  simp only [Bool.and_eq_true, Bool.not_eq_true'] at h
  obtain ⟨⟨⟨h1, h2⟩, h3⟩, h4⟩ := h
  exact ⟨Gd.at_ h1, by rw [Gd.sc]; exact vis_of h2, h3, h4⟩
theorem Good.xp (Gd : Good T C Φ Γ X W) {y : Str} : ∀ {ps : List XP3} {ks : List (Option Expr)} {vs : List Expr}, chkX T Γ y ps ks vs = true → XPairs X C.K y ps ks vs
  | [], ks, vs, h => by
    unfold chkX at h
    split at h
    · exact .nil
    · cases h
  | (k, c, ds) :: ps, ks, vs, h => by
    unfold chkX at h
    split at h
    · simp only [Bool.and_eq_true, decide_eq_true_eq, Bool.not_eq_true', decide_eq_false_iff_not] at h
      obtain ⟨⟨⟨⟨⟨⟨⟨⟨rfl, rfl⟩, rfl⟩, rfl⟩, h1⟩, h2⟩, h3⟩, h4⟩, h5⟩ := h
      exact .cons (Gd.gl h2) (Gd.mdl.xs _ _ h1) h3 h4 (Good.xp Gd h5)
    · cases h
theorem Good.xj (Gd : Good T C Φ Γ X W) {j : Nat} {ps : List XP3} {ks : List (Option Expr)} {vs : List Expr} (h : chkXj T Γ j ps ks vs = true) : ∃ y, X.N[j]? = some y ∧ Vis X.env.scope y ∧ (y == ("__debug__" : Str)) = false ∧ (y == ("__classdict__" : Str)) = false ∧ Gl X "isinstance" ∧ X.mg "isinstance" = none ∧ XPairs X C.K y ps ks vs ∧ ps ≠ [] ∧ ps.length ≤ 15 := by
  unfold chkXj at h
  split at h
  · rename_i y _
    simp only [Bool.and_eq_true, Bool.not_eq_true', decide_eq_true_eq] at h
    obtain ⟨⟨⟨⟨⟨h1, h2⟩, h3⟩, h4⟩, h5⟩, h6⟩ := h
    obtain ⟨a1, a2, a3, a4⟩ := Gd.ml h1
    exact ⟨y, a1, a2, a3, a4, Gd.gl h4, Gd.mdl.bl _ h3, Gd.xp h2, (fun z => by rw [z] at h5; cases h5), h6⟩
  · cases h
theorem Good.nm (Gd : Good T C Φ Γ X W) {i : Nat} {x : Str} {px : Pos} (h : chkG Γ (.n i) (.Name x px) = true) : X.N[i]? = some x ∧ L2.Loc X.env.scope x ∧ (X.fn x = true ∨ X.env.scope.names.lookup x = some .local) := by
  unfold chkG at h
  obtain ⟨h1, h2⟩ := Bool.and_eq_true_iff.mp h
  exact ⟨Gd.at_ h1, Gd.loc h2⟩
theorem aug_of {o : Op2} {op : Operator} (h : augB o op = true) : PIp X op (ipO o) := by
  cases o <;> cases op <;> first | exact ip_add | exact ip_sub | cases h
theorem augS_of {kx : Expr} (h : okE kx = true) : ∀ ov iv new, augStore kx ov iv new = (do holding [new, ov, iv] (setItem ov iv new); release [new, ov, iv] []; pure .next) := by
  cases kx <;> first | (intros; rfl) | cases h
theorem sndN (Gd : GoodS T C Φ Γ X W) {i : Nat} {e : E} {x : Str} {px pos : Pos} {ex : Expr} (h1 : chkG Γ (.n i) (.Name x px) = true) (h2 : chkN T Γ e ex = true) : PS X (.Assign [.Name x px] ex pos) (liftS C W H0 ρ0 fun σ => M.bind (ev Φ e σ) (newS σ i)) := by
  obtain ⟨n1, n2, n3⟩ := Gd.nm h1
  unfold chkN at h2
  split at h2
  · split at h2
    · rename_i es xs p
      unfold chkE at h2
      simp only [Bool.and_eq_true, decide_eq_true_eq] at h2
      have q := sndEs (H0 := H0) (ρ0 := ρ0) _ _ Gd.toGood h2.1
      exact liftS_eq (sS_new Gd.nd n1 n2 n3 rfl (sN_lst q fun σ g ds g' z => by rw [evs_len z, chkEs_len h2.1]; exact h2.2)) fun σ => by rw [ev]
    · cases h2
  · split at h2
    · simp only [Bool.and_eq_true, decide_eq_true_eq] at h2
      obtain ⟨⟨rfl, h3⟩, h4⟩ := h2
      exact liftS_eq (sS_new Gd.nd n1 n2 n3 rfl (sN_add (sndE _ _ Gd.toGood h3).1 (sndE _ _ Gd.toGood h4).1)) fun σ => by rw [ev]
    · simp only [Bool.and_eq_true, decide_eq_true_eq] at h2
      obtain ⟨⟨rfl, h3⟩, h4⟩ := h2
      exact liftS_eq (sS_new Gd.nd n1 n2 n3 rfl (sN_mul (sndE _ _ Gd.toGood h3).1 (sndE _ _ Gd.toGood h4).1)) fun σ => by rw [ev]
    · cases h2
  · split at h2
    · simp only [Bool.and_eq_true, decide_eq_true_eq] at h2
      obtain ⟨⟨⟨⟨⟨rfl, rfl⟩, h3⟩, h4⟩, h5⟩, h6⟩ := h2
      exact liftS_eq (sS_new Gd.nd n1 n2 n3 rfl (sN_list Gd.K h5 (Gd.gl h4) (Gd.mdl.bl _ h3) (sndEs _ _ Gd.toGood h6))) fun σ => by rw [ev]
    · cases h2
  · split at h2
    · unfold chkE at h2
      split at h2
      · rename_i elt tg own it cs _ elt0 gs scope p _ x tge iter ifs scope1 p1 heq
        cases heq
        simp only [Bool.and_eq_true, List.all_eq_true] at h2
        obtain ⟨⟨⟨⟨⟨⟨a1, a2⟩, a3⟩, a4⟩, a5⟩, a6⟩, a7⟩ := h2
        have bo : BlkOk X.N X.env.scope scope (ownOf Γ.N own) := by
          rw [Gd.N, Gd.sc]
          exact blkOk_by a1
        have q := sS_newC (py := px) (pos := p) (spos := pos) (i := i) (H0 := H0) (ρ0 := ρ0) Gd.calm Gd.nd Gd.K n1 n2 n3 Gd.kind bo a2 (by rw [ownOf_ix]; exact fun i hi => by simpa using a3 i hi) (sndI it tge iter Gd.toGood a4) (fun s H Cc cl fp => sndG tg tge Gd.toGood.blk a5)
          (fun s H Cc cl fp => sndC cs ifs Gd.toGood.blk a6) (fun s H Cc cl fp => (sndE elt _ Gd.toGood.blk a7).1)
        rw [ownOf_ix] at q
        exact liftS_eq q fun σ => by rw [comp_eq, ev]
      · cases h2
    · cases h2
  · cases h2
theorem sndNE (Gd : GoodS T C Φ Γ X W) {e : E} {ex : Expr} (h2 : chkN T Γ e ex = true) : PE X ex (liftN C W H0 ρ0 fun σ => M.bind (ev Φ e σ) asL) := by
  unfold chkN at h2
  split at h2
  · split at h2
    · rename_i es xs p
      unfold chkE at h2
      simp only [Bool.and_eq_true, decide_eq_true_eq] at h2
      have q := sndEs (H0 := H0) (ρ0 := ρ0) _ _ Gd.toGood h2.1
      exact liftN_eq (sN_lst q fun σ g ds g' z => by rw [evs_len z, chkEs_len h2.1]; exact h2.2) fun σ => by rw [ev]
    · cases h2
  · split at h2
    · simp only [Bool.and_eq_true, decide_eq_true_eq] at h2
      obtain ⟨⟨rfl, h3⟩, h4⟩ := h2
      exact liftN_eq (sN_add (sndE _ _ Gd.toGood h3).1 (sndE _ _ Gd.toGood h4).1) fun σ => by rw [ev]
    · simp only [Bool.and_eq_true, decide_eq_true_eq] at h2
      obtain ⟨⟨rfl, h3⟩, h4⟩ := h2
      exact liftN_eq (sN_mul (sndE _ _ Gd.toGood h3).1 (sndE _ _ Gd.toGood h4).1) fun σ => by rw [ev]
    · cases h2
  · split at h2
    · simp only [Bool.and_eq_true, decide_eq_true_eq] at h2
      obtain ⟨⟨⟨⟨⟨rfl, rfl⟩, h3⟩, h4⟩, h5⟩, h6⟩ := h2
      exact liftN_eq (sN_list Gd.K h5 (Gd.gl h4) (Gd.mdl.bl _ h3) (sndEs _ _ Gd.toGood h6)) fun σ => by rw [ev]
    · cases h2
  · split at h2
    · unfold chkE at h2
      split at h2
      · rename_i elt tg own it cs _ elt0 gs scope p _ x tge iter ifs scope1 p1 heq
        cases heq
        simp only [Bool.and_eq_true, List.all_eq_true] at h2
        obtain ⟨⟨⟨⟨⟨⟨a1, a2⟩, a3⟩, a4⟩, a5⟩, a6⟩, a7⟩ := h2
        have bo : BlkOk X.N X.env.scope scope (ownOf Γ.N own) := by
          rw [Gd.N, Gd.sc]
          exact blkOk_by a1
        have q := sN_comp (pos := p) (H0 := H0) (ρ0 := ρ0) (W := W) Gd.calm Gd.nd Gd.K bo a2 (by rw [ownOf_ix]; exact fun i hi => by simpa using a3 i hi) (sndI it tge iter Gd.toGood a4) (fun s H Cc cl fp => sndG tg tge Gd.toGood.blk a5)
          (fun s H Cc cl fp => sndC cs ifs Gd.toGood.blk a6) (fun s H Cc cl fp => (sndE elt _ Gd.toGood.blk a7).1)
        rw [ownOf_ix] at q
        exact liftN_eq q fun σ => by rw [← asL_eq (compM _ _ _ _ _ σ), comp_eq, ev]
      · cases h2
    · cases h2
  · cases h2
theorem sndMd (Gd : GoodS T C Φ Γ X W) {m : Bool} {e : E} {ex : Expr} (h : chkMd T Γ m e ex = true) : PE X ex (liftMd C W H0 ρ0 m (ev Φ e)) := by
  cases m with
  | false => exact (sndE e ex Gd.toGood h).1
  | true => exact sndNE Gd h
mutual
theorem sndS : ∀ (s : S) {Γ : Gam} {X : Cx} {W : WX} (st : Stmt), GoodS T C Φ Γ X W → chkS T Γ s st = true → PS X st (liftS C W H0 ρ0 (ex Φ fuel s))
  | .asg tg e, Γ, X, W, st, Gd, h => by
    unfold chkS at h
    split at h
    · simp only [Bool.and_eq_true] at h
      obtain ⟨⟨h1, h2⟩, h3⟩ := h
      cases tg with
      | n i =>
        obtain ⟨n1, n2, n3⟩ := Gd.nm h1
        exact liftS_eq (sS_asgN Gd.nd n1 n2 n3 h2 (sndE e _ Gd.toGood h3).1) fun σ => by rw [ex]
      | t l => unfold chkG at h1; cases h1
    · simp only [Bool.and_eq_true] at h
      obtain ⟨⟨⟨h1, h2⟩, h3⟩, h4⟩ := h
      exact liftS_eq (sS_asgT (sndG tg _ Gd.toGood h1) h2 h3 (sndE e _ Gd.toGood h4).1) fun σ => by rw [ex]
    · cases h
  | .par is es, Γ, X, W, st, Gd, h => by
    unfold chkS at h
    split at h
    · simp only [Bool.and_eq_true, Bool.not_eq_true', decide_eq_true_eq] at h
      obtain ⟨⟨⟨⟨⟨⟨⟨⟨⟨⟨⟨h1, h2⟩, h3⟩, h4⟩, h5⟩, h6⟩, h7⟩, h8⟩, h9⟩, h10⟩, h11⟩, h12⟩ := h
      have l1 := lc_of h4
      have l2 := lc_of h5
      rw [← Gd.sc] at l1 l2
      rw [← Gd.N] at h1 h2
      exact liftS_eq (PS.imp (ps_par Gd.calm Gd.nd h1 h2 h3 l1 l2 (sndEs es _ Gd.toGood h12) (sw_two Gd.kind l1 l2 h6 h7 h8 h9 h10 h11) rfl) fun E σV H h => par_read h) fun σ => by rw [ex]
    · cases h
  | .new i e, Γ, X, W, st, Gd, h => by
    unfold chkS at h
    split at h
    · simp only [Bool.and_eq_true] at h
      exact liftS_eq (sndN Gd h.1 h.2) fun σ => by rw [ex]
    · cases h
  | .fz i, Γ, X, W, st, Gd, h => by
    unfold chkS at h
    cases h
  | .clr is, Γ, X, W, st, Gd, h => by
    unfold chkS at h
    cases h
  | .setix i k v, Γ, X, W, st, Gd, h => by
    unfold chkS at h
    split at h
    · simp only [Bool.and_eq_true] at h
      obtain ⟨⟨⟨⟨h1, h2⟩, h3⟩, h4⟩, h5⟩ := h
      obtain ⟨n1, n2, n3, n4⟩ := Gd.ml h1
      rename_i x px kx pk vx pos
      exact liftS_eq (PS.imp (ps_asg (sndE v _ Gd.toGood h5).1 (pg_sub (getL_run n1 n2 n3 n4) (sndE k _ Gd.toGood h4).1 set_list (asgSub_of h2)) (by show swapsWith vx (some (.Subscript (.Name x px) kx pk)) pos.line X.env = pure false; exact swaps_of h3 _ _ _) (by cases vx <;> first | rfl | cases h3) rfl) fun E σV H h => setix_read h) fun σ => by rw [ex]
    · cases h
  | .augix i o k v, Γ, X, W, st, Gd, h => by
    unfold chkS at h
    split at h
    · simp only [Bool.and_eq_true] at h
      obtain ⟨⟨⟨⟨h1, h2⟩, h3⟩, h4⟩, h5⟩ := h
      obtain ⟨n1, n2, n3, n4⟩ := Gd.ml h1
      exact liftS_eq (PS.imp (ps_augS (getL_run n1 n2 n3 n4) (sndE k _ Gd.toGood h4).1 get_list (sndE v _ Gd.toGood h5).1 (aug_of h3) set_list (augS_of h2)) fun E σV H h => augix_read h) fun σ => by rw [ex]
    · cases h
  | .aug i o e, Γ, X, W, st, Gd, h => by
    unfold chkS at h
    split at h
    · simp only [Bool.and_eq_true] at h
      obtain ⟨⟨h1, h2⟩, h3⟩ := h
      obtain ⟨n1, n2, n3⟩ := Gd.nm h1
      exact liftS_eq (PS.imp (ps_aug Gd.nd n1 n2 (sndE e _ Gd.toGood h3).1 (aug_of h2) n3) fun E σV H h => aug_read h) fun σ => by rw [ex]
    · cases h
  | .app i e, Γ, X, W, st, Gd, h => by
    unfold chkS at h
    split at h
    · simp only [Bool.and_eq_true, decide_eq_true_eq] at h
      obtain ⟨⟨⟨⟨rfl, h1⟩, h2⟩, h3⟩, h4⟩ := h
      obtain ⟨n1, n2, n3, n4⟩ := Gd.ml h1
      exact liftS_eq (sS_app Gd.K n1 n2 n3 n4 h2 h3 (sndE e _ Gd.toGood h4).1) fun σ => by rw [ex]
    · cases h
  | .ext i e, Γ, X, W, st, Gd, h => by
    unfold chkS at h
    split at h
    · simp only [Bool.and_eq_true, decide_eq_true_eq] at h
      obtain ⟨⟨⟨⟨rfl, h1⟩, h2⟩, h3⟩, h4⟩ := h
      obtain ⟨n1, n2, n3, n4⟩ := Gd.ml h1
      exact liftS_eq (sS_ext Gd.K n1 n2 n3 n4 h2 h3 (sndE e _ Gd.toGood h4).1) fun σ => by rw [ex]
    · cases h
  | .ife c a b, Γ, X, W, st, Gd, h => by
    unfold chkS at h
    split at h
    · simp only [Bool.and_eq_true] at h
      obtain ⟨⟨⟨h1, h2⟩, h3⟩, h4⟩ := h
      exact liftS_eq (sS_ife ((sndE c _ Gd.toGood h2).2 h1) (sndSs a _ Gd h3) (sndSs b _ Gd h4)) fun σ => by rw [ex]; rfl
    · cases h
  | .forr tg it b tmp, Γ, X, W, st, Gd, h => by
    unfold chkS at h
    split at h
    · simp only [Bool.and_eq_true] at h
      obtain ⟨⟨⟨h1, h2⟩, h3⟩, h4⟩ := h
      exact liftS_eq (PS.imp (ps_for Gd.own Gd.calm (sndI it _ _ Gd.toGood h2) (sndG tg _ Gd.toGood h3) (sndSs b _ Gd h4) (folded_of h1 X.env)) fun E σV H h => for_read (tmp := tmp) h) fun σ => by rw [ex]
    · cases h
  | .whilL i b, Γ, X, W, st, Gd, h => by
    unfold chkS at h
    split at h
    · simp only [Bool.and_eq_true] at h
      obtain ⟨h1, h3⟩ := h
      obtain ⟨n1, n2, n3, n4⟩ := Gd.ml h1
      exact liftS_eq (PS.imp (ps_while Gd.own (sT_ml Gd.K n1 n2 n3 n4) (sndSs b _ Gd h3)) fun E σV H h => while_read (fuel := fuel) h) fun σ => by rw [ex]
    · cases h
  | .newd i t none, Γ, X, W, st, Gd, h => by
    unfold chkS at h
    split at h
    · obtain ⟨n1, n2, n3⟩ := Gd.nm h
      exact liftS_eq (sS_newd0 Gd.nd n1 n2 n3) fun σ => by rw [ex]
    · cases h
  | .newd i t (some (k, v)), Γ, X, W, st, Gd, h => by
    unfold chkS at h
    split at h
    · simp only [Bool.and_eq_true] at h
      obtain ⟨⟨h1, h2⟩, h3⟩ := h
      obtain ⟨n1, n2, n3⟩ := Gd.nm h1
      exact liftS_eq (sS_newd1 (by have := Gd.rm.un; omega) Gd.nd n1 n2 n3 (sndE k _ Gd.toGood h2).1 (sndE v _ Gd.toGood h3).1) fun σ => by rw [ex]
    · cases h
  | .setk i k v, Γ, X, W, st, Gd, h => by
    unfold chkS at h
    split at h
    · simp only [Bool.and_eq_true] at h
      obtain ⟨⟨⟨h1, h2⟩, h3⟩, h4⟩ := h
      obtain ⟨n1, n2, n3, n4⟩ := Gd.ml h1
      exact liftS_eq (sS_setk (by have := Gd.rm.un; omega) n1 n2 n3 n4 h2 (sndE k _ Gd.toGood h3).1 (sndE v _ Gd.toGood h4).1) fun σ => by rw [ex]
    · cases h
  | .newx i j ps, Γ, X, W, st, Gd, h => by
    unfold chkS at h
    split at h
    · simp only [Bool.and_eq_true] at h
      obtain ⟨h1, h2⟩ := h
      obtain ⟨n1, n2, n3⟩ := Gd.nm h1
      obtain ⟨y, a1, a2, a3, a4, a5, a6, a7, a8, a9⟩ := Gd.xj h2
      exact liftS_eq (sS_newx Gd.K Gd.nd n1 n2 n3 a1 a2 a3 a4 a5 a6 a7 a8 a9) fun σ => by rw [ex]
    · cases h
  | .updx i j ps, Γ, X, W, st, Gd, h => by
    unfold chkS at h
    split at h
    · simp only [Bool.and_eq_true, decide_eq_true_eq] at h
      obtain ⟨⟨⟨h0, h1⟩, h3⟩, h2⟩ := h
      subst h0
      obtain ⟨n1, n2, n3, n4⟩ := Gd.ml h1
      obtain ⟨y, a1, a2, a3, a4, a5, a6, a7, a8, a9⟩ := Gd.xj h2
      exact liftS_eq (sS_updx Gd.K n1 n2 n3 n4 a1 a2 a3 a4 a5 a6 a7 a8 a9 h3) fun σ => by rw [ex]
    · cases h
  | .pop i j, Γ, X, W, st, Gd, h => by
    unfold chkS at h
    split at h
    · simp only [Bool.and_eq_true, decide_eq_true_eq] at h
      obtain ⟨⟨⟨rfl, h1⟩, h2⟩, h3⟩ := h
      obtain ⟨n1, n2, n3, n4⟩ := Gd.ml h1
      obtain ⟨j1, j2, j3⟩ := Gd.nm h3
      exact liftS_eq (sS_pop Gd.K n1 n2 n3 n4 h2 Gd.nd j1 j2 j3) fun σ => by rw [ex]
    · cases h
  | .par2 i j m1 m2 a b, Γ, X, W, st, Gd, h => by
    unfold chkS at h
    split at h
    · simp only [Bool.and_eq_true, Bool.not_eq_true', decide_eq_true_eq] at h
      obtain ⟨⟨⟨⟨⟨⟨⟨⟨⟨⟨⟨⟨h1, h2⟩, h3⟩, h4⟩, h5⟩, h6⟩, h7⟩, h8⟩, h9⟩, h10⟩, h11⟩, h12⟩, h13⟩ := h
      have l1 := lc_of h4
      have l2 := lc_of h5
      rw [← Gd.sc] at l1 l2
      rw [← Gd.N] at h1 h2
      exact liftS_eq (sS_par2 Gd.calm Gd.nd h1 h2 h3 l1 l2 (sw_two Gd.kind l1 l2 h6 h7 h8 h9 h10 h11) h8 h9 (sndMd Gd h12) (sndMd Gd h13)) fun σ => by rw [ex]
    · cases h
  | .set2 i k1 k2 v1 v2, Γ, X, W, st, Gd, h => by
    unfold chkS at h
    split at h
    · simp only [Bool.and_eq_true, decide_eq_true_eq] at h
      obtain ⟨⟨⟨⟨⟨⟨⟨⟨⟨h0, h1⟩, h2⟩, h3⟩, h4⟩, h5⟩, h6⟩, h7⟩, h8⟩, h9⟩ := h
      subst h0
      obtain ⟨n1, n2, n3, n4⟩ := Gd.ml h1
      exact liftS_eq (sS_set2 Gd.K Gd.calm n1 n2 n3 n4 h2 h3 h4 h5 (sndE v1 _ Gd.toGood h6).1 (sndE v2 _ Gd.toGood h7).1 (sndE k1 _ Gd.toGood h8).1 (sndE k2 _ Gd.toGood h9).1) fun σ => by rw [ex] <;> rfl
    · cases h
  | .whil c b, Γ, X, W, st, Gd, h => by
    unfold chkS at h
    split at h
    · simp only [Bool.and_eq_true] at h
      obtain ⟨⟨h1, h2⟩, h3⟩ := h
      exact liftS_eq (PS.imp (ps_while Gd.own ((sndE c _ Gd.toGood h2).2 h1) (sndSs b _ Gd h3)) fun E σV H h => while_read (fuel := fuel) h) fun σ => by rw [ex]; rfl
    · cases h
  | .ret e, Γ, X, W, st, Gd, h => by
    unfold chkS at h
    split at h
    · exact liftS_eq (sS_ret (sndE e _ Gd.toGood h).1) fun σ => by rw [ex]
    · cases h
  | .exp e, Γ, X, W, st, Gd, h => by
    unfold chkS at h
    split at h
    · simp only [Bool.and_eq_true] at h
      exact liftS_eq (sS_exp h.1 (sndE e _ Gd.toGood h.2).1) fun σ => by rw [ex]
    · cases h
  | .raise c, Γ, X, W, st, Gd, h => by
    unfold chkS at h
    split at h
    · simp only [Bool.and_eq_true, decide_eq_true_eq, Bool.not_eq_true'] at h
      obtain ⟨⟨⟨rfl, h2⟩, h3⟩, h4⟩ := h
      exact liftS_eq (sS_raise Gd.calm Gd.K Gd.tk (Gd.gl h3) (Gd.mdl.ex _ h2) h4) fun σ => by rw [ex]
    · cases h
  | .brk, Γ, X, W, st, Gd, h => by
    unfold chkS at h
    split at h
    · exact liftS_eq sS_brk fun σ => by rw [ex]
    · cases h
  | .cnt, Γ, X, W, st, Gd, h => by
    unfold chkS at h
    split at h
    · exact liftS_eq sS_cnt fun σ => by rw [ex]
    · cases h
theorem sndSs : ∀ (b : List S) {Γ : Gam} {X : Cx} {W : WX} (sts : List Stmt), GoodS T C Φ Γ X W → chkSs T Γ b sts = true → PSs X sts (liftS C W H0 ρ0 (exs Φ fuel b))
  | [], Γ, X, W, sts, Gd, h => by
    unfold chkSs at h
    split at h
    · exact liftSs_eq sS_nil fun σ => by rw [exs]
    · cases h
  | s :: r, Γ, X, W, sts, Gd, h => by
    have eq : ∀ σ, seqM (ex Φ fuel s) (exs Φ fuel r) σ = exs Φ fuel (s :: r) σ := fun σ => by rw [exs]; rfl
    unfold chkSs at h
    split at h
    · rename_i i
      refine liftSs_eq (sS_fz (i := i) (sndSs r sts Gd h)) fun σ => ?_
      rw [← eq]
      show seqM _ _ σ = seqM _ _ σ
      rw [show ex Φ fuel (.fz i) = fun σ => fzS σ i from funext fun σ => by rw [ex]]
    · rename_i is
      refine liftSs_eq (sS_clr (is := is) (sndSs r sts Gd h)) fun σ => ?_
      rw [← eq]
      show seqM _ _ σ = seqM _ _ σ
      rw [show ex Φ fuel (.clr is) = fun σ => M.pure (.next (clear is σ)) from funext fun σ => by rw [ex]]
    · split at h
      · rename_i st l
        simp only [Bool.and_eq_true] at h
        exact liftSs_eq (sS_cons (sndS s st Gd h.1) (sndSs r l Gd h.2)) eq
      · cases h
end
end
end MC
namespace MC
open PySem PySem.Spec L2
section
variable {T : Tab} {C : Cn} {P : Program} {w : World} {mg : Str → Option Value} {base : Heap} {Φ : Nat → List D → M D} {n : Nat}
theorem init_get {ds : List D} {k j : Nat} {s : Sl} (h : (ds.map Sl.imm ++ List.replicate k Sl.un)[j]? = some s) : s = .un ∨ ∃ d, s = .imm d ∧ ds[j]? = some d := by
  by_cases hj : j < ds.length
  · rw [List.getElem?_append_left (by simpa using hj), List.getElem?_map] at h
    cases e : ds[j]? with
    | none => rw [e] at h; cases h
    | some d => rw [e] at h; cases h; exact .inr ⟨d, rfl, rfl⟩
  · rw [List.getElem?_append_right (by simpa using hj), List.getElem?_replicate] at h
    split at h <;> cases h
    exact .inl rfl
/-- a def's frame at its entry -/
theorem Fm.start {N : List Str} {ds : List D} {vs : List V} {ρ : Rho} {g : G} {H : Hp} {k : Nat} (so : Sto C.tb ρ g H) (r : Reps C ρ H ds vs) (hl : N.length = vs.length + k) : Fm C H ρ (ds.map Sl.imm ++ List.replicate k Sl.un) (L2.start N vs) ρ g H := by
  have hv := r.len
  have no : ∀ (j : Nat) s ov a, (ds.map Sl.imm ++ List.replicate k Sl.un)[j]? = some s → own s ov ≠ some a := fun j s ov a h z => by
    rcases init_get h with rfl | ⟨d, rfl, _⟩
    · rw [own_un] at z; cases z
    · rw [own_imm] at z; cases z
  refine ⟨?_, fun j s ov h1 h2 => ?_, fun i j s t ov ow a h1 h2 h3 => (no i s ov a h1 h3).elim, fun i s ov a h1 h2 h3 => (no i s ov a h1 h3).elim, .refl _ _ _, List.prefix_refl _, fun b z => .inl z, so⟩
  · unfold L2.start
    rw [List.length_append, List.length_append, List.length_map, List.length_map, List.length_replicate, List.length_replicate]
    omega
  · rcases init_get h1 with rfl | ⟨d, rfl, hd⟩
    · trivial
    · obtain ⟨v, ev, rv⟩ := r.get hd
      unfold L2.start at h2
      have hj := (List.getElem?_eq_some_iff.mp ev).1
      rw [List.getElem?_append_left (by simpa using hj), List.getElem?_map, ev] at h2
      cases h2
      exact ⟨v, rfl, rv⟩
/-- a def keeps its promise -/
theorem def_ok (Md : Mdl T C P w mg base Φ n) {x : Str} {params : Arguments} {bd : List Stmt} {scope : Scope} {dvs : List V} {kws : List (Str × V)} {f : Addr} {fd : FuncData} (Fd : FunD C.K x x params bd scope dvs kws f fd) {N ps : List Str} (Sc : FnScope N ps scope) {b : List S} {k fuel : Nat}
    (hN : N.length = ps.length + k) (hc : chkSs T ⟨N, scope, fun _ => true, n, false⟩ b bd = true) (hΦ : ∀ as, as.length = ps.length → Φ n as = MC.body Φ fuel b k as) :
    FnOk P w C.K mg base (L2.CX P w) (n + 1) f fd ps (spM C ps.length (Φ n)) := by
  refine FunD.ok Fd Sc (fun vs H Q E h => h.1) fun cdv A outer s H vs Q E hr hsp => ?_
  obtain ⟨hl, ρ, g, ds, so, rv, r, g', hm, hk⟩ := hsp
  have hds : ds.length = ps.length := rv.len.symm.trans hl
  have Gd : GoodS T C Φ ⟨N, scope, fun _ => true, n, false⟩ (cxOf (L2.CX P w) P w C.K mg base N x scope f cdv A outer s H E) (fun cls d _ H => E cls d H) :=
    { mdl := Md, K := rfl, N := rfl, nd := Sc.nd, sc := rfl, calm := rfl, fn := fun _ _ => rfl, tk := takes_of rfl rfl rfl rfl, rm := hr, lam := fun z => absurd (show false = true from z) Bool.false_ne_true, kind := Sc.kind, own := passes_of rfl }
  refine ⟨_, sndSs (H0 := H) (ρ0 := ρ) (fuel := fuel) b bd Gd hc, ?_⟩
  rw [hΦ ds hds] at hm
  rcases bind_some hm with ⟨c, h1, rfl⟩ | ⟨fl, g1, h1, h2⟩
  · exact ⟨_, ρ, g, Fm.start so rv (by omega), .ex c, g', h1, fun σV' ρ' H' st so' => hk ρ' H' st so'⟩
  · refine ⟨_, ρ, g, Fm.start so rv (by omega), .ok fl, g1, h1, ?_⟩
    cases fl with
    | ret d =>
      obtain ⟨rfl, rfl⟩ := pure_some h2
      exact hk
    | next σ' =>
      obtain ⟨rfl, rfl⟩ := pure_some h2
      exact fun σV' ρ' H' F' _ _ => hk .non ρ' H' F'.stp F'.sto rfl
    | brk σ' => cases h2
    | cnt σ' => cases h2
end
end MC
namespace MC
open PySem PySem.Spec L2
/-! ### a def by a run of its own -/
theorem code_at {K : PySem.W.Frag} {x : Str} {oc : Value} {od : Option Addr} {osl : Array (Option Value)} {params : Arguments} {bd : List Stmt} {scope : Scope} {dV kV doc pm cdv ct : Value} {an : Option Addr} (lk : K.lookup (He.ga K x) = some ⟨oc, od, .func (PySem.W.fnOf x x params bd scope dV kV doc pm an cdv ct), osl⟩) (hcd : PySem.W.codeIn K cdv x = true) :
    cdv = .ref (He.cT K (x, none)).1 := by
  obtain ⟨c, rfl⟩ := He.codeIn_ref hcd
  show Value.ref c = .ref (He.codeOf K (x, none))
  rw [He.codeOf_eq (p := (x, none)) lk rfl]
theorem def_okB {T : Tab} {C : Cn} {P : Program} {w : World} {mg : Str → Option Value} {base : Heap} {Φ : Nat → List D → M D} {n : Nat} (Md : Mdl T C P w mg base Φ n) {x : Str} {params : Arguments} {bd : List Stmt} {scope : Scope} {dvs : List V} {kws : List (Str × V)} {fd : FuncData} (Fd : FunD C.K x x params bd scope dvs kws (He.ga C.K x) fd) {N ps : List Str} (Sc : FnScope N ps scope) {k : Nat} {lam : Bool} (hlam : lam = true → T.lm.contains x = true) {mB : List Sl → M Flow'} {F : List D → M D}
    (hN : N.length = ps.length + k) (hB : ∀ (X : Cx) (W : WX) (H0 : Hp) (ρ0 : Rho), GoodS T C Φ ⟨N, scope, fun _ => true, n, lam⟩ X W → PSs X bd (liftS C W H0 ρ0 mB)) (hΦ : ∀ as, as.length = ps.length → F as = M.bind (mB (as.map Sl.imm ++ List.replicate k .un)) retD) :
    FnOk P w C.K mg base (L2.CX P w) (n + 1) (He.ga C.K x) fd ps (spM C ps.length F) := by
  obtain ⟨oc, od, dV, kV, doc, pm, an, cdv, ct, osl, rfl, lk, hcd, hD, hK⟩ := Fd.ex
  refine fn_of lk hcd Sc (fun vs H Q E h => h.1) fun A outer s H vs Q E hr hsp => ?_
  obtain ⟨hl, ρ, g, ds, so, rv, r, g', hm, hk⟩ := hsp
  have hds : ds.length = ps.length := rv.len.symm.trans hl
  have Gd : GoodS T C Φ ⟨N, scope, fun _ => true, n, lam⟩ (cxOf (L2.CX P w) P w C.K mg base N x scope (He.ga C.K x) cdv A outer s H E) (fun cls d _ H => E cls d H) :=
    { mdl := Md, K := rfl, N := rfl, nd := Sc.nd, sc := rfl, calm := rfl, fn := fun _ _ => rfl, tk := takes_of rfl rfl rfl rfl, rm := hr, lam := fun z => ⟨x, hlam z, rfl, code_at lk hcd⟩, kind := Sc.kind, own := passes_of rfl }
  refine ⟨_, hB _ _ H ρ Gd, ?_⟩
  rw [hΦ ds hds] at hm
  rcases bind_some hm with ⟨c, h1, rfl⟩ | ⟨fl, g1, h1, h2⟩
  · exact ⟨_, ρ, g, Fm.start so rv (by omega), .ex c, g', h1, fun σV' ρ' H' st so' => hk ρ' H' st so'⟩
  · refine ⟨_, ρ, g, Fm.start so rv (by omega), .ok fl, g1, h1, ?_⟩
    cases fl with
    | ret d =>
      obtain ⟨rfl, rfl⟩ := pure_some h2
      exact hk
    | next σ' =>
      obtain ⟨rfl, rfl⟩ := pure_some h2
      exact fun σV' ρ' H' F' _ _ => hk .non ρ' H' F'.stp F'.sto rfl
    | brk σ' => cases h2
    | cnt σ' => cases h2
/-! ### the law's own call: the script is a list that nothing changes from now on -/
def spS (C : Cn) (F : List D → M D) : Sp := fun vs H Q _ => ∃ a ns, vs = [.ref a] ∧ SqL C.K H a (ns.map V.int) ∧ LamX.Tabs C.tb H ∧ (∃ g', F [.scr ns] [] = some (.ok (.bl true), g')) ∧ ∀ H', Q (.bl true) H'
theorem nilSto {T : List (Addr × Str)} {H : Hp} (h : LamX.Tabs T H) : Sto T [] [] H := ⟨rfl, fun n o p h _ => by simp at h, List.nodup_nil, h⟩
theorem def_okS {T : Tab} {C : Cn} {P : Program} {w : World} {mg : Str → Option Value} {base : Heap} {Φ : Nat → List D → M D} {n : Nat} (Md : Mdl T C P w mg base Φ n) {x : Str} {params : Arguments} {bd : List Stmt} {scope : Scope} {dvs : List V} {kws : List (Str × V)} {fd : FuncData} (Fd : FunD C.K x x params bd scope dvs kws (He.ga C.K x) fd) {N : List Str} {p : Str} (Sc : FnScope N [p] scope) {k : Nat} {lam : Bool} (hlam : lam = true → T.lm.contains x = true) {mB : List Sl → M Flow'} {F : List D → M D}
    (hN : N.length = 1 + k) (hB : ∀ (X : Cx) (W : WX) (H0 : Hp) (ρ0 : Rho), GoodS T C Φ ⟨N, scope, fun _ => true, n, lam⟩ X W → PSs X bd (liftS C W H0 ρ0 mB)) (hΦ : ∀ a, F [a] = M.bind (mB (Sl.imm a :: List.replicate k .un)) retD) :
    FnOk P w C.K mg base (L2.CX P w) (n + 1) (He.ga C.K x) fd [p] (spS C F) := by
  obtain ⟨oc, od, dV, kV, doc, pm, an, cdv, ct, osl, rfl, lk, hcd, hD, hK⟩ := Fd.ex
  refine fn_of lk hcd Sc (fun vs H Q E h => by obtain ⟨a, ns, rfl, _⟩ := h; rfl) fun A outer s H vs Q E hr hsp => ?_
  obtain ⟨a, ns, rfl, hS, tb, ⟨g', hm⟩, hq⟩ := hsp
  have Gd : GoodS T C Φ ⟨N, scope, fun _ => true, n, lam⟩ (cxOf (L2.CX P w) P w C.K mg base N x scope (He.ga C.K x) cdv A outer s H E) (fun cls d _ H => E cls d H) :=
    { mdl := Md, K := rfl, N := rfl, nd := Sc.nd, sc := rfl, calm := rfl, fn := fun _ _ => rfl, tk := takes_of rfl rfl rfl rfl, rm := hr, lam := fun z => ⟨x, hlam z, rfl, code_at lk hcd⟩, kind := Sc.kind, own := passes_of rfl }
  have go : ∀ H1, ScrAt C.K H1 a ns → LamX.Tabs C.tb H1 → liftS C (fun cls d _ H => E cls d H) H1 [] mB { nx := fun _ H' => Q .non H', rt := Q } (L2.start N [.ref a]) H1 := fun H1 hs ht => by
    rw [hΦ (.scr ns)] at hm
    have F0 := Fm.start (C := C) (N := N) (ds := [.scr ns]) (vs := [.ref a]) (k := k) (nilSto ht) ⟨_, _, rfl, ⟨a, rfl, hs⟩, rfl⟩ hN
    rcases bind_some hm with ⟨c, h1, z⟩ | ⟨fl, g1, h1, h2⟩
    · cases z
    · refine ⟨_, [], [], F0, .ok fl, g1, h1, ?_⟩
      cases fl with
      | ret d =>
        obtain ⟨e1, e2⟩ := pure_some h2
        cases e1
        intro v ρ' H' _ _ rv
        cases (show v = .bl true from rv)
        exact hq H'
      | next σ' =>
        obtain ⟨e1, _⟩ := pure_some h2
        cases e1
      | brk σ' => cases h2
      | cnt σ' => cases h2
  refine ⟨fun E' σV H' => (∃ H0 ρ0, liftS C (fun cls d _ H => E cls d H) H0 ρ0 mB E' σV H') ∨ ∃ xs, H' a = some (.lst xs) ∧ ∀ o, ∃ H0 ρ0, liftS C (fun cls d _ H => E cls d H) H0 ρ0 mB E' σV (upd H' a (.frz o (.lst xs))), ⟨fun pins s1 σV H' D I h => ?_⟩, ?_⟩
  · rcases h with ⟨H0, ρ0, h⟩ | ⟨xs, ha, h⟩
    · exact (hB _ _ H0 ρ0 Gd).run pins s1 σV H' D I h
    · obtain ⟨o, I'⟩ := inv_frz I ha
      obtain ⟨H0, ρ0, h⟩ := h o
      exact (hB _ _ H0 ρ0 Gd).run pins s1 σV _ D I' h
  · rcases hS with (hS | hS) | hS
    · refine .inr ⟨_, hS, fun o => ⟨_, _, go _ (.inl ⟨o, upd_same⟩) ?_⟩⟩
      refine Tabs.same tb fun b u e hc => ?_
      rw [upd_ne (fun z => by rw [z, hS] at e; cases e; exact hc)]
      exact e
    · exact .inl ⟨_, _, go _ (.inl hS) tb⟩
    · exact .inl ⟨_, _, go _ (.inr hS) tb⟩
/-! ### the town -/
theorem sep_of : ∀ {ρ : Rho}, (ρ.flatMap fun p => [p.1, p.2]).Nodup → ∀ {n m : Nat} {p q : Addr × Addr}, ρ[n]? = some p → ρ[m]? = some q → n ≠ m → p.1 ≠ q.1 ∧ p.1 ≠ q.2 ∧ p.2 ≠ q.1 ∧ p.2 ≠ q.2
  | [], _, n, m, p, q, h, _, _ => by simp at h
  | a :: ρ, nd, n, m, p, q, h1, h2, hne => by
    rw [List.flatMap_cons] at nd
    have nd' : (a.1 :: a.2 :: (ρ.flatMap fun p => [p.1, p.2])).Nodup := nd
    have n1 := List.nodup_cons.mp nd'
    have n2 := List.nodup_cons.mp n1.2
    have inr : ∀ {k : Nat} {r : Addr × Addr}, ρ[k]? = some r → r.1 ∈ (ρ.flatMap fun p => [p.1, p.2]) ∧ r.2 ∈ (ρ.flatMap fun p => [p.1, p.2]) := fun {k r} h => by
      have m := List.mem_of_getElem? h
      exact ⟨List.mem_flatMap.mpr ⟨r, m, by simp⟩, List.mem_flatMap.mpr ⟨r, m, by simp⟩⟩
    cases n with
    | zero =>
      cases m with
      | zero => exact absurd rfl hne
      | succ m =>
        have e1 : a = p := by simpa using h1
        subst e1
        obtain ⟨i1, i2⟩ := inr (show ρ[m]? = some q by simpa using h2)
        exact ⟨fun z => n1.1 (z ▸ List.mem_cons_of_mem _ i1), fun z => n1.1 (z ▸ List.mem_cons_of_mem _ i2), fun z => n2.1 (z ▸ i1), fun z => n2.1 (z ▸ i2)⟩
    | succ n =>
      cases m with
      | zero =>
        have e1 : a = q := by simpa using h2
        subst e1
        obtain ⟨i1, i2⟩ := inr (show ρ[n]? = some p by simpa using h1)
        exact ⟨fun z => n1.1 (z ▸ List.mem_cons_of_mem _ i1), fun z => n2.1 (z ▸ i1), fun z => n1.1 (z ▸ List.mem_cons_of_mem _ i2), fun z => n2.1 (z ▸ i2)⟩
      | succ m => exact sep_of n2.2 (show ρ[n]? = some p by simpa using h1) (show ρ[m]? = some q by simpa using h2) (by omega)
theorem sep_self : ∀ {ρ : Rho}, (ρ.flatMap fun p => [p.1, p.2]).Nodup → ∀ {n : Nat} {p : Addr × Addr}, ρ[n]? = some p → p.1 ≠ p.2
  | [], _, n, p, h => by simp at h
  | a :: ρ, nd, n, p, h1 => by
    rw [List.flatMap_cons] at nd
    have nd' : (a.1 :: a.2 :: (ρ.flatMap fun p => [p.1, p.2])).Nodup := nd
    have n1 := List.nodup_cons.mp nd'
    cases n with
    | zero =>
      have e1 : a = p := by simpa using h1
      subst e1
      exact fun z => n1.1 (z ▸ List.mem_cons_self)
    | succ n => exact sep_self (List.nodup_cons.mp n1.2).2 (show ρ[n]? = some p by simpa using h1)
section
variable {C : Cn} {W : WX} {H0 : Hp} {ρ0 : Rho} {X : Cx} {σV : L2.St} {σ : List Sl} {ρ : Rho} {g g' : G} {H : Hp}
theorem Sto.set {n : Nat} {p : Addr × Addr} {o : GO} {b : Addr} {kvs : List (Key × V)} (s : Sto C.tb ρ g H) (hn : ρ[n]? = some p) (hb : b = p.1 ∨ b = p.2) (h : StoAt (L2.upd H b (.dK kvs)) o p) : Sto C.tb ρ (g.set n o) (L2.upd H b (.dK kvs)) := by
  have tb : LamX.Tabs C.tb (L2.upd H b (.dK kvs)) := by
    obtain ⟨kvs0, e0⟩ := s.rok b ⟨p, List.mem_of_getElem? hn, hb⟩
    refine Tabs.same s.tab fun c u h hc => ?_
    rw [upd_ne (fun q => by rw [q, e0] at h; cases h; exact hc)]
    exact h
  refine ⟨by rw [List.length_set]; exact s.len, fun m o' q h1 h2 => ?_, s.sep, tb⟩
  by_cases e : n = m
  · subst e
    rw [hn] at h2
    cases h2
    have l : n < g.length := by rw [s.len]; exact (List.getElem?_eq_some_iff.mp hn).1
    rw [List.getElem?_set_self l] at h1
    cases h1
    exact h
  · rw [List.getElem?_set_ne e] at h1
    have old := s.at_ m o' q h1 h2
    obtain ⟨d1, d2, d3, d4⟩ := sep_of s.sep hn h2 e
    have k1 : q.1 ≠ b := by rcases hb with rfl | rfl; exact Ne.symm d1; exact Ne.symm d3
    have k2 : q.2 ≠ b := by rcases hb with rfl | rfl; exact Ne.symm d2; exact Ne.symm d4
    cases o' with
    | town c r => exact ⟨by rw [upd_ne k1]; exact old.1, by rw [upd_ne k2]; exact old.2⟩
theorem Fm.rho (F : Fm C H0 ρ0 σ σV ρ g H) {n : Nat} {p : Addr × Addr} {b : Addr} {kvs kvs' : List (Key × V)} (hn : ρ[n]? = some p) (hb : b = p.1 ∨ b = p.2) (e : H b = some (.dK kvs)) (so : Sto C.tb ρ g' (upd H b (.dK kvs'))) :
    Fm C H0 ρ0 σ σV ρ g' (upd H b (.dK kvs')) ∧ Keeps C.K H (upd H b (.dK kvs')) := by
  have inb : inRho ρ b := ⟨p, List.mem_of_getElem? hn, hb⟩
  have kp : Keeps C.K H (upd H b (.dK kvs')) := keeps_updD e (fun _ z => by cases z) (fun _ _ z => by cases z) fun _ _ _ z => by cases z
  have nb : ∀ c u, H0 c = some u → ¬ inRho ρ0 c → (isTbl u → inTb C.tb c) → c ≠ b := fun c u h nr ht z => by
    subst z
    rcases F.nrh _ inb with q | q
    · exact nr q
    · obtain ⟨q1, q2⟩ := q u h
      exact q2 (ht q1)
  refine ⟨⟨F.len, fun i s ov h1 h2 => ?_, F.sep, F.new, ⟨fun c u h nr nt => ?_, fun c u h nr t ht => ?_⟩, F.pre, F.nrh, so⟩, kp⟩
  · refine (F.rep i s ov h1 h2).to kp (List.prefix_refl _) fun a vs ho q _ => ?_
    rw [upd_ne (fun z => (F.new i s ov a h1 h2 ho).2 (by rw [z]; exact inb))]
    exact q
  · rw [upd_ne (nb c u h nr fun z => absurd z nt)]
    exact F.ext.at_ c u h nr nt
  · rw [upd_ne (nb c u h nr fun _ => ht)]
    exact F.ext.tbl c u h nr t ht
/-- what the town in slot i holds -/
def twS (σ : List Sl) (i : Nat) : M (Nat × Int × List (Int × Int)) := fun g => match slot σ i with
  | .imm (.obj n) => match g[n]? with
    | some (.town c r) => some (.ok (n, c, r), g)
    | none => none
  | _ => none
theorem twS_some {i : Nat} {r : R (Nat × Int × List (Int × Int))} (h : twS σ i g = some (r, g')) : ∃ n c rs, slot σ i = .imm (.obj n) ∧ g[n]? = some (.town c rs) ∧ r = .ok (n, c, rs) ∧ g' = g := by
  unfold twS at h
  cases e : slot σ i with
  | imm d =>
    rw [e] at h
    cases d with
    | obj n =>
      dsimp only at h
      cases q : g[n]? with
      | none => rw [q] at h; cases h
      | some o =>
        rw [q] at h
        cases o with
        | town c rs =>
          cases h
          exact ⟨n, c, rs, rfl, q, rfl, rfl⟩
    | _ => cases h
  | _ => rw [e] at h; cases h
/-- where it lies -/
theorem tw_at (F : Fm C H0 ρ0 σ σV ρ g H) {i n : Nat} {c : Int} {rs : List (Int × Int)} (hs : slot σ i = .imm (.obj n)) (hg : g[n]? = some (.town c rs)) : ∃ p, ρ[n]? = some p ∧ σV[i]? = some (some (.ref p.1)) ∧ StoAt H (.town c rs) p := by
  obtain ⟨v, hv, q, hq, rfl⟩ := F.get hs
  exact ⟨q, hq, hv, F.sto.at_ n _ q hg hq⟩
theorem ne_cr : ((.inr "count" : Key)) ≠ .inr "rests" := by decide +kernel
theorem cnt_val {c : Int} {b : Addr} : valV [((.inr "count" : Key), V.int c), (.inr "rests", .ref b)] (.inr "count") = some (.int c) := by
  unfold valV
  rw [List.find?_cons_of_pos (by simp)]
  rfl
theorem rst_val {c : Int} {b : Addr} : valV [((.inr "count" : Key), V.int c), (.inr "rests", .ref b)] (.inr "rests") = some (.ref b) := by
  unfold valV
  rw [List.find?_cons_of_neg (by rw [decide_eq_true_eq]; exact ne_cr), List.find?_cons_of_pos (by simp)]
  rfl
theorem cnt_put {c c' : Int} {b : Addr} : putK [((.inr "count" : Key), V.int c), (.inr "rests", .ref b)] (.inr "count") (.int c') = [(.inr "count", .int c'), (.inr "rests", .ref b)] := by
  unfold putK
  rw [if_pos (by rw [List.any_cons]; simp)]
  rw [List.map_cons, List.map_cons, List.map_nil, if_pos rfl, if_neg (show ¬ (.inr "rests" : Key) = .inr "count" from fun z => ne_cr z.symm)]
def getT (r : List (Int × Int)) (a : Int) : Option Int := (r.find? fun q => decide (q.1 = a)).map (·.2)
def putT (r : List (Int × Int)) (a v : Int) : List (Int × Int) := if (r.any fun q => decide (q.1 = a)) = true then r.map (fun q => if q.1 = a then (q.1, v) else q) else r ++ [(a, v)]
theorem getT_val (r : List (Int × Int)) (a : Int) : valV (r.map fun q => ((.inl q.1 : Key), V.int q.2)) (.inl a) = (getT r a).map V.int := by
  induction r with
  | nil => rfl
  | cons q r ih =>
    unfold valV getT at ih ⊢
    rw [List.map_cons]
    by_cases e : q.1 = a
    · rw [List.find?_cons_of_pos (by simp [e]), List.find?_cons_of_pos (by simp [e])]
      rfl
    · rw [List.find?_cons_of_neg (by simp [e]), List.find?_cons_of_neg (by simp [e])]
      exact ih
theorem putT_put (r : List (Int × Int)) (a v : Int) : putK (r.map fun q => ((.inl q.1 : Key), V.int q.2)) (.inl a) (.int v) = (putT r a v).map fun q => ((.inl q.1 : Key), V.int q.2) := by
  unfold putK putT
  have e : ((r.map fun q => ((.inl q.1 : Key), V.int q.2)).any fun kv => decide (kv.1 = .inl a)) = (r.any fun q => decide (q.1 = a)) := by
    rw [List.any_map]
    congr 1
    funext q
    simp
  rw [e]
  split
  · rw [List.map_map, List.map_map]
    refine List.map_congr_left fun q _ => ?_
    show (if (.inl q.1 : Key) = .inl a then _ else _) = _
    by_cases z : q.1 = a
    · simp [z]
    · simp [z]
  · simp
end
end MC
namespace MC
open PySem PySem.Spec L2
section
variable {C : Cn} {W : WX} {H0 : Hp} {ρ0 : Rho} {X : Cx} {σV : L2.St} {σ : List Sl} {ρ : Rho} {g g' : G} {H : Hp}
/-- town['count'] -/
def tcM (i : Nat) : List Sl → M D := fun σ => M.bind (twS σ i) fun t => M.pure (.int t.2.1)
/-- town['rests'].get(k, d) -/
def tgM (i : Nat) (mk md : List Sl → M D) : List Sl → M D := fun σ => M.bind (twS σ i) fun _ => M.bind (mk σ) fun k => M.bind (md σ) fun d => M.bind (twS σ i) fun t => match k with
  | .int a => M.pure (match getT t.2.2 a with
    | some v => .int v
    | none => d)
  | _ => M.fail
/-- the town in slot i becomes c, r -/
def twP (n : Nat) (c : Int) (r : List (Int × Int)) : M Unit := fun g => some (.ok (), g.set n (.town c r))
/-- town['count'] = e -/
def tcS (i : Nat) (m : List Sl → M D) : List Sl → M Flow' := fun σ => M.bind (m σ) fun d => M.bind (twS σ i) fun t => match d with
  | .int c => M.bind (twP t.1 c t.2.2) fun _ => M.pure (.next σ)
  | _ => M.fail
/-- town['rests'][k] = e -/
def trS (i : Nat) (mk m : List Sl → M D) : List Sl → M Flow' := fun σ => M.bind (m σ) fun d => M.bind (twS σ i) fun _ => M.bind (mk σ) fun k => M.bind (twS σ i) fun t => match k, d with
  | .int a, .int v => if t.2.2.length < sizeLine then M.bind (twP t.1 t.2.1 (putT t.2.2 a v)) fun _ => M.pure (.next σ) else M.fail
  | _, _ => M.fail
section
variable {i : Nat} {x : Str} {px p1 p2 p3 p4 pos : Pos} {j : Nat}
theorem noSl_of {e : Expr} (h : okE e = true) : NoSl e := fun o i => by
  cases e <;> first | rfl | cases h
theorem twS_not {r : R (Nat × Int × List (Int × Int))} (h : twS σ i g = some (r, g')) {c : Str} (e : r = .ex c) : False := by
  obtain ⟨_, _, _, _, _, z, _⟩ := twS_some h
  rw [e] at z
  cases z
theorem pe_rests (hu : X.A.units + 1 < cLine) (hN : X.N[i]? = some x) (hv : Vis X.env.scope x) (hd : (x == ("__debug__" : Str)) = false) (hcd : (x == ("__classdict__" : Str)) = false) :
    PE X (.Subscript (.Name x px) (.Constant (.str "rests") j p1) pos) (tDGet (fun σV H Q => ∃ v, σV[i]? = some (some v) ∧ Q v H) (tC (.str "rests"))) := pe_dget hu (getL_run hN hv hd hcd) pe_str (noSl_of rfl)
theorem sE_tc (hu : X.A.units + 1 < cLine) (hN : X.N[i]? = some x) (hv : Vis X.env.scope x) (hd : (x == ("__debug__" : Str)) = false) (hcd : (x == ("__classdict__" : Str)) = false) :
    PE X (.Subscript (.Name x px) (.Constant (.str "count") j p1) pos) (lift C W H0 ρ0 (tcM i)) := by
  refine PE.imp (pe_dget hu (getL_run hN hv hd hcd) pe_str (noSl_of rfl)) fun σV H Q h => ?_
  obtain ⟨σ, ρ, g, F, r, g', hm, hk⟩ := h
  rcases bind_some hm with ⟨c, h1, rfl⟩ | ⟨t, g1, h1, h2⟩
  · exact (twS_not h1 rfl).elim
  obtain ⟨n, c, rs, hs, hg, et, rfl⟩ := twS_some h1
  cases et
  obtain ⟨rfl, rfl⟩ := pure_some h2
  obtain ⟨p, hp, hv', ha⟩ := tw_at F hs hg
  refine ⟨.ref p.1, hv', ?_⟩
  have := DGet.k (k := .inr "count") ha.1
  rw [cnt_val] at this
  exact ⟨p.1, .int c, rfl, this, hk ρ H F (.refl _ _) _ rfl⟩
theorem sE_tg {e f : Expr} {mk md : List Sl → M D} {pa pc : Pos} (hu : X.A.units + 1 < cLine) (hN : X.N[i]? = some x) (hv : Vis X.env.scope x) (hd : (x == ("__debug__" : Str)) = false) (hcd : (x == ("__classdict__" : Str)) = false) (oe : okE e = true) (of_ : okE f = true) (hl : (pa.endLine == pc.line) = true)
    (he : PE X e (lift C W H0 ρ0 mk)) (hf : PE X f (lift C W H0 ρ0 md)) : PE X (.Call (.Attribute (.Subscript (.Name x px) (.Constant (.str "rests") j p1) pos) "get" pa) [e, f] [] pc) (lift C W H0 ρ0 (tgM i mk md)) := by
  refine PE.imp (pe_dget2 hu (pe_rests hu hN hv hd hcd) he hf ⟨rfl, by rw [star_of oe, star_of of_]; rfl, hl, by rw [star_of oe, star_of of_]; rfl⟩) fun σV H Q h => ?_
  obtain ⟨σ, ρ, g, F, r, g', hm, hk⟩ := h
  rcases bind_some hm with ⟨c, h1, rfl⟩ | ⟨t, g1, h1, h2⟩
  · exact (twS_not h1 rfl).elim
  obtain ⟨n, c, rs, hs, hg, et, rfl⟩ := twS_some h1
  cases et
  obtain ⟨p, hp, hv', ha⟩ := tw_at F hs hg
  refine ⟨.ref p.1, hv', ?_⟩
  have d1 := DGet.k (k := .inr "rests") ha.1
  rw [rst_val] at d1
  refine ⟨p.1, .ref p.2, rfl, d1, p.2, rfl, .inl ⟨_, .inl ha.2⟩, ?_⟩
  rcases bind_some h2 with ⟨c, h3, rfl⟩ | ⟨k, g2, h3, h4⟩
  · exact ⟨σ, ρ, g1, F, .ex c, g', h3, hk⟩
  refine ⟨σ, ρ, g1, F, .ok k, g2, h3, fun ρ1 H1 F1 s1 kv rk => ?_⟩
  rcases bind_some h4 with ⟨c, h5, rfl⟩ | ⟨d, g3, h5, h6⟩
  · exact ⟨σ, ρ1, g2, F1, .ex c, g', h5, hk⟩
  refine ⟨σ, ρ1, g2, F1, .ok d, g3, h5, fun ρ2 H2 F2 s2 dv rd => ?_⟩
  rcases bind_some h6 with ⟨c, h7, rfl⟩ | ⟨t, g4, h7, h8⟩
  · exact (twS_not h7 rfl).elim
  obtain ⟨n', c', rs', hs', hg', et, rfl⟩ := twS_some h7
  cases et
  rw [hs] at hs'
  cases hs'
  have hp2 : ρ2[n]? = some p := get_pre s2.pre (get_pre s1.pre hp)
  have ha2 := F2.sto.at_ n _ p hg' hp2
  cases k with
  | int a =>
    obtain ⟨rfl, rfl⟩ := pure_some h8
    have d2 := DGet.k (k := .inl a) ha2.2
    rw [getT_val] at d2
    have rk2 : kv = .int a := rk
    subst rk2
    refine ⟨_, d2, ?_⟩
    cases q : getT rs' a with
    | some v => exact hk ρ2 H2 F2 (s1.trans s2) _ (by rw [q]; rfl)
    | none => exact hk ρ2 H2 F2 (s1.trans s2) _ (by rw [q]; exact rd)
  | _ => cases h8
theorem sS_tc {e : Expr} {m : List Sl → M D} (hu : X.A.units + 1 < cLine) (hN : X.N[i]? = some x) (hv : Vis X.env.scope x) (hd : (x == ("__debug__" : Str)) = false) (hcd : (x == ("__classdict__" : Str)) = false) (nc : noComp e = true) (h : PE X e (lift C W H0 ρ0 m)) :
    PS X (.Assign [.Subscript (.Name x px) (.Constant (.str "count") j p1) p2] e pos) (liftS C W H0 ρ0 (tcS i m)) := by
  refine PS.imp (ps_asg h (pg_sub (getL_run hN hv hd hcd) pe_str (set_dict hu) (asgSub_of rfl)) (by show swapsWith e (some (.Subscript (.Name x px) (.Constant (.str "count") j p1) p2)) pos.line X.env = pure false; exact swaps_of nc _ _ _) (by cases e <;> first | rfl | cases nc) rfl) fun E σV H h => ?_
  obtain ⟨σ, ρ, g, F, r, g', hm, hk⟩ := h
  rcases bind_some hm with ⟨c, h1, rfl⟩ | ⟨d, g1, h1, h2⟩
  · exact ⟨σ, ρ, g, F, .ex c, g', h1, exc_of (E := True) hk⟩
  refine ⟨σ, ρ, g, F, .ok d, g1, h1, fun ρ1 H1 F1 s1 v rv => ?_⟩
  rcases bind_some h2 with ⟨c, h3, rfl⟩ | ⟨t, g2, h3, h4⟩
  · exact (twS_not h3 rfl).elim
  obtain ⟨n, c, rs, hs, hg, et, rfl⟩ := twS_some h3
  cases et
  obtain ⟨p, hp, hv', ha⟩ := tw_at F1 hs hg
  refine ⟨.ref p.1, hv', ?_⟩
  cases d with
  | int c' =>
    have h4 : some ((.ok (.next σ) : R Flow'), g2.set n (.town c' rs)) = some (r, g') := h4
    cases h4
    cases (show v = .int c' from rv)
    have so : Sto C.tb ρ1 (g2.set n (.town c' rs)) (upd H1 p.1 (.dK (putK [((.inr "count" : Key), V.int c), (.inr "rests", .ref p.2)] (.inr "count") (.int c')))) := by
      refine F1.sto.set hp (.inl rfl) ⟨?_, ?_⟩
      · rw [upd_same, cnt_put]
      · rw [upd_ne (Ne.symm (sep_self F1.sto.sep hp))]
        exact ha.2
    obtain ⟨F2, kp⟩ := F1.rho hp (.inl rfl) ha.1 so
    exact ⟨p.1, _, rfl, DPut.k (k := .inr "count") ha.1 (by rw [sizeLine_eq]; show 2 < 16777216; omega), hk σV ρ1 _ F2 ((s1.keeps F.rok).trans kp) s1.pre⟩
  | _ => cases h4
theorem sS_tr {e ke : Expr} {m mk : List Sl → M D} (hu : X.A.units + 1 < cLine) (hN : X.N[i]? = some x) (hv : Vis X.env.scope x) (hd : (x == ("__debug__" : Str)) = false) (hcd : (x == ("__classdict__" : Str)) = false) (nc : noComp e = true) (ok : okE ke = true) (h : PE X e (lift C W H0 ρ0 m)) (hk' : PE X ke (lift C W H0 ρ0 mk)) :
    PS X (.Assign [.Subscript (.Subscript (.Name x px) (.Constant (.str "rests") j p1) p2) ke p3] e pos) (liftS C W H0 ρ0 (trS i mk m)) := by
  refine PS.imp (ps_asg h (pg_sub (pe_rests hu hN hv hd hcd) hk' (set_dict hu) (asgSub_of ok)) (by show swapsWith e (some (.Subscript (.Subscript (.Name x px) (.Constant (.str "rests") j p1) p2) ke p3)) pos.line X.env = pure false; exact swaps_of nc _ _ _) (by cases e <;> first | rfl | cases nc) rfl) fun E σV H h => ?_
  obtain ⟨σ, ρ, g, F, r, g', hm, hk⟩ := h
  rcases bind_some hm with ⟨c, h1, rfl⟩ | ⟨d, g1, h1, h2⟩
  · exact ⟨σ, ρ, g, F, .ex c, g', h1, exc_of (E := True) hk⟩
  refine ⟨σ, ρ, g, F, .ok d, g1, h1, fun ρ1 H1 F1 s1 v rv => ?_⟩
  rcases bind_some h2 with ⟨c, h3, rfl⟩ | ⟨t, g2, h3, h4⟩
  · exact (twS_not h3 rfl).elim
  obtain ⟨n, c, rs, hs, hg, et, rfl⟩ := twS_some h3
  cases et
  obtain ⟨p, hp, hv', ha⟩ := tw_at F1 hs hg
  refine ⟨.ref p.1, hv', ?_⟩
  have d1 := DGet.k (k := .inr "rests") ha.1
  rw [rst_val] at d1
  refine ⟨p.1, .ref p.2, rfl, d1, ?_⟩
  rcases bind_some h4 with ⟨c, h5, rfl⟩ | ⟨k, g3, h5, h6⟩
  · exact ⟨σ, ρ1, g2, F1, .ex c, g', h5, exc_of (E := True) hk⟩
  refine ⟨σ, ρ1, g2, F1, .ok k, g3, h5, fun ρ2 H2 F2 s2 kv rk => ?_⟩
  rcases bind_some h6 with ⟨c, h7, rfl⟩ | ⟨t, g4, h7, h8⟩
  · exact (twS_not h7 rfl).elim
  obtain ⟨n', c', rs', hs', hg', et, rfl⟩ := twS_some h7
  cases et
  rw [hs] at hs'
  cases hs'
  have hp2 : ρ2[n]? = some p := get_pre s2.pre hp
  have ha2 := F2.sto.at_ n _ p hg' hp2
  match k, d, h8 with
  | .int a, .int v', h8 =>
    have h8 : (if rs'.length < sizeLine then M.bind (twP n c' (putT rs' a v')) (fun _ => M.pure (Flow'.next σ)) else M.fail) g4 = some (r, g') := h8
    split at h8
    · rename_i hz
      have h8 : some ((.ok (.next σ) : R Flow'), g4.set n (.town c' (putT rs' a v'))) = some (r, g') := h8
      cases h8
      cases (show kv = .int a from rk)
      cases (show v = .int v' from rv)
      have so : Sto C.tb ρ2 (g4.set n (.town c' (putT rs' a v'))) (upd H2 p.2 (.dK (putK (rs'.map fun q => ((.inl q.1 : Key), V.int q.2)) (.inl a) (.int v')))) := by
        refine F2.sto.set hp2 (.inr rfl) ⟨?_, ?_⟩
        · rw [upd_ne (sep_self F2.sto.sep hp2)]
          exact ha2.1
        · rw [upd_same, putT_put]
      obtain ⟨F3, kp⟩ := F2.rho hp2 (.inr rfl) ha2.2 so
      exact ⟨p.2, _, rfl, DPut.k (k := .inl a) ha2.2 (by rw [List.length_map]; exact hz), hk σV ρ2 _ F3 (((s1.keeps F.rok).trans (s2.keeps F1.rok)).trans kp) (s1.pre.trans s2.pre)⟩
    · cases h8
  | .int _, .non, h8 => cases h8
  | .int _, .bl _, h8 => cases h8
  | .int _, .str _, h8 => cases h8
  | .int _, .tup _, h8 => cases h8
  | .int _, .lst _, h8 => cases h8
  | .int _, .dct _ _ _, h8 => cases h8
  | .int _, .ins _ _ _, h8 => cases h8
  | .int _, .fn _, h8 => cases h8
  | .int _, .obj _, h8 => cases h8
  | .int _, .scr _, h8 => cases h8
  | .int _, .exc _, h8 => cases h8
  | .non, _, h8 => cases h8
  | .bl _, _, h8 => cases h8
  | .str _, _, h8 => cases h8
  | .tup _, _, h8 => cases h8
  | .lst _, _, h8 => cases h8
  | .dct _ _ _, _, h8 => cases h8
  | .ins _ _ _, _, h8 => cases h8
  | .fn _, _, h8 => cases h8
  | .obj _, _, h8 => cases h8
  | .scr _, _, h8 => cases h8
  | .exc _, _, h8 => cases h8
/-! ### _law_begun -/
def begunF : List D → M D := fun _ g => some (.ok (.obj g.length), g ++ [.town 0 []])
end
end
end MC
namespace MC
open PySem PySem.Spec L2
section
variable {C : Cn} {W : WX} {H0 : Hp} {ρ0 : Rho} {X : Cx} {σV : L2.St} {σ : List Sl} {ρ : Rho} {g g' : G} {H : Hp}
/-! ### _law_begun -/
theorem merge_two {q : Addr} : mergeK [] [((.inr "count" : Key), V.int 0), (.inr "rests", .ref q)] = [(.inr "count", .int 0), (.inr "rests", .ref q)] := by
  show putK (putK ([] : List (Key × V)) (.inr "count") (.int 0)) (.inr "rests") (.ref q) = _
  have e : putK ([] : List (Key × V)) (.inr "count") (.int 0) = [(.inr "count", .int 0)] := rfl
  rw [e]
  unfold putK
  rw [if_neg (by rw [List.any_cons, List.any_nil, Bool.or_false, decide_eq_true_eq]; exact ne_cr)]
  rfl
theorem sE_begun {i j k : Nat} {p1 p2 p3 p4 pos : Pos} : PE X (.Dict [some (.Constant (.str "count") i p1), some (.Constant (.str "rests") j p2)] [.Constant (.int 0) k p3, .Dict [] [] p4] pos) (lift C W H0 ρ0 fun _ => begunF []) := by
  refine PE.imp (pe_disp (pps_cons pe_str pe_int (pps_cons pe_str pe_dnewK pps_nil)) rfl rfl (by simp) (by show 2 ≤ 15; omega)) fun σV H Q h => ?_
  obtain ⟨σ, ρ, g, F, r, g', hm, hk⟩ := h
  have hm : some ((.ok (.obj g.length) : R D), g ++ [.town 0 []]) = some (r, g') := hm
  cases hm
  intro p hp q hq
  have hqp : q ≠ p := fun z => by
    rw [z, upd_same] at hq
    cases hq
  have hq0 : H q = none := by rwa [upd_ne hqp] at hq
  refine ⟨by rw [upd_ne (Ne.symm hqp), upd_same], [((.inr "count" : Key), V.int 0), (.inr "rests", .ref q)], rfl, by show 2 ≤ 15; omega, ?_⟩
  rw [merge_two]
  have same : ∀ b u, H b = some u → (upd (upd (upd H p (.dK [])) q (.dK [])) p (.dK [((.inr "count" : Key), V.int 0), (.inr "rests", .ref q)])) b = some u := fun b u e => by
    rw [upd_ne (ne_of_none e hp), upd_ne (ne_of_none e hq0), upd_ne (ne_of_none e hp)]
    exact e
  have gr : Grow H (upd (upd (upd H p (.dK [])) q (.dK [])) p (.dK [((.inr "count" : Key), V.int 0), (.inr "rests", .ref q)])) := same
  have nin : ∀ b, H b = none → b ∉ ρ.flatMap fun p => [p.1, p.2] := fun b hb z => by
    obtain ⟨r, hr, hz⟩ := List.mem_flatMap.mp z
    have : inRho ρ b := ⟨r, hr, by simpa using hz⟩
    obtain ⟨kvs, e⟩ := F.rok b this
    rw [hb] at e
    cases e
  have so : Sto C.tb (ρ ++ [(p, q)]) (g ++ [.town 0 []]) (upd (upd (upd H p (.dK [])) q (.dK [])) p (.dK [((.inr "count" : Key), V.int 0), (.inr "rests", .ref q)])) := by
    refine ⟨by rw [List.length_append, List.length_append, F.sto.len]; rfl, fun n o r h1 h2 => ?_, ?_, (F.sto.grow gr).tab⟩
    · by_cases hn : n < g.length
      · rw [List.getElem?_append_left hn] at h1
        rw [List.getElem?_append_left (by rw [← F.sto.len]; exact hn)] at h2
        exact (F.sto.grow gr).at_ n o r h1 h2
      · rw [List.getElem?_append_right (by omega)] at h1
        rw [List.getElem?_append_right (by rw [← F.sto.len]; omega)] at h2
        rw [F.sto.len] at h1
        have hz : n - ρ.length = 0 := by
          have := (List.getElem?_eq_some_iff.mp h1).1
          simp at this
          omega
        rw [hz] at h1 h2
        cases h1
        cases h2
        exact ⟨upd_same, by rw [upd_ne hqp, upd_same]; rfl⟩
    · rw [List.flatMap_append, List.nodup_append]
      refine ⟨F.sto.sep, ?_, fun a ha b hb => ?_⟩
      · show [p, q].Nodup
        simp [Ne.symm hqp]
      · have hb : b = p ∨ b = q := by simpa using hb
        rcases hb with rfl | rfl
        · exact fun z => nin _ hp (z ▸ ha)
        · exact fun z => nin _ hq0 (z ▸ ha)
  have st : Stp C.tb ρ H (ρ ++ [(p, q)]) (upd (upd (upd H p (.dK [])) q (.dK [])) p (.dK [((.inr "count" : Key), V.int 0), (.inr "rests", .ref q)])) := by
    refine ⟨.of _ _ gr, List.prefix_append _ _, fun b z => ?_⟩
    obtain ⟨r, hr, hz⟩ := z
    rcases List.mem_append.mp hr with h | h
    · exact .inl ⟨r, h, hz⟩
    · have : r = (p, q) := by simpa using h
      subst this
      rcases hz with rfl | rfl
      · exact .inr (.of hp)
      · exact .inr (.of hq0)
  refine hk _ _ (F.step st so) st _ ⟨(p, q), ?_, rfl⟩
  rw [F.sto.len, List.getElem?_append_right (Nat.le_refl _), Nat.sub_self]
  rfl
/-! ### _law_draw -/
def opM (o : Op2) (a b : List Sl → M D) : List Sl → M D := fun σ => M.bind (a σ) fun x => M.bind (b σ) fun y => M.opt (opD o x y)
def cM (d : D) : List Sl → M D := fun _ => M.pure d
def vM (i : Nat) : List Sl → M D := fun σ => slotD σ i
def asgM (i : Nat) (m : List Sl → M D) : List Sl → M Flow' := fun σ => M.bind (m σ) fun d => M.bind (M.opt (put (.n i) d σ)) fun σ' => M.pure (.next σ')
def retM (m : List Sl → M D) : List Sl → M Flow' := fun σ => M.bind (m σ) fun d => M.pure (.ret d)
def nilM : List Sl → M Flow' := fun σ => M.pure (.next σ)
def lenM (m : List Sl → M D) : List Sl → M D := fun σ => M.bind (M.bind (m σ) fun d => M.bind (M.pure []) fun ds => M.pure (d :: ds)) fun ds => M.opt (prD .len ds)
def ixM (a b : List Sl → M D) : List Sl → M D := fun σ => M.bind (a σ) fun x => M.bind (b σ) fun y => M.opt (ixOf x y)
def drawB : List Sl → M Flow' :=
  seqM (tcS 1 (opM .add (tcM 1) (cM (.int 1))))
  (seqM (asgM 3 (ifeM (vM 0) (opM .mod (tcM 1) (lenM (vM 0))) (cM (.int 0))))
  (seqM (asgM 4 (tgM 1 (vM 3) (ifeM (vM 0) (ixM (vM 0) (vM 3)) (cM (.int 0)))))
  (seqM (ifS (opM .ge (vM 4) (opM .pow (cM (.int 10)) (cM (.int 18)))) (seqM (trS 1 (vM 3) (opM .fdiv (vM 4) (vM 2))) (seqM (retM (opM .mod (vM 4) (vM 2))) nilM)) nilM)
  (seqM (asgM 5 (opM .mod (opM .add (vM 4) (opM .mul (cM (.int 104729)) (tcM 1))) (cM (.int 4294967291))))
  (seqM (asgM 5 (opM .mod (opM .pow (vM 5) (cM (.int 5))) (cM (.int 4294967279))))
  (seqM (retM (opM .mod (opM .fdiv (opM .mod (opM .add (opM .mul (opM .fdiv (vM 5) (cM (.int 64))) (cM (.int 69621))) (vM 5)) (cM (.int 4294967231))) (cM (.int 8))) (vM 2))) nilM))))))
def drawF (as : List D) : M D := M.bind (drawB (as.map Sl.imm ++ List.replicate 3 .un)) retD
def drawN : List Str := ["script", "town", "many", "at", "rest", "number"]
section
variable {T : Tab} {Φ : Nat → List D → M D} {Γ : Gam}
theorem sE_i {k : Int} {j : Nat} {p : Pos} : PE X (.Constant (.int k) j p) (lift C W H0 ρ0 (cM (.int k))) := sE_cst pe_int fun _ _ => rfl
/-- what a def's name asks -/
structure Nm (X : Cx) (i : Nat) (x : Str) : Prop where
  at_ : X.N[i]? = some x
  loc : X.env.scope.names.lookup x = some .local
  d1 : (x == ("__debug__" : Str)) = false
  d2 : (x == ("__classdict__" : Str)) = false
theorem Nm.v {i : Nat} {x : Str} {p : Pos} (n : Nm X i x) : PE X (.Name x p) (lift C W H0 ρ0 (vM i)) := sE_var n.at_ (.inl n.loc) n.d1 n.d2
theorem Nm.asg {i : Nat} {x : Str} {p pos : Pos} {e : Expr} {m : List Sl → M D} (n : Nm X i x) (nd : X.N.Nodup) (nc : noComp e = true) (h : PE X e (lift C W H0 ρ0 m)) : PS X (.Assign [.Name x p] e pos) (liftS C W H0 ρ0 (asgM i m)) := sS_asgN nd n.at_ (.inl n.loc) (.inr n.loc) nc h
theorem draw_run (Gd : GoodS T C Φ Γ X W) (hN : Γ.N = drawN) (h0 : Γ.sc.names.lookup ("script" : Str) = some .local) (h1 : Γ.sc.names.lookup ("town" : Str) = some .local) (h2 : Γ.sc.names.lookup ("many" : Str) = some .local) (h3 : Γ.sc.names.lookup ("at" : Str) = some .local) (h4 : Γ.sc.names.lookup ("rest" : Str) = some .local) (h5 : Γ.sc.names.lookup ("number" : Str) = some .local) (hg : glB Γ.sc "len" = true) (hb : T.bl.contains "len" = true)
    {p1 p2 p3 p4 p5 p6 p7 p8 p9 p10 p11 p12 p13 p14 p15 p16 p17 p18 p19 p20 p21 p22 p23 p24 p25 p26 p27 p28 p29 p30 p31 p32 p33 p34 p35 p36 p37 p38 p39 p40 p41 p42 p43 p44 p45 p46 p47 p48 p49 p50 p51 p52 p53 p54 p55 p56 p57 p58 p59 p60 p61 p62 p63 p64 p65 p66 p67 p68 p69 p70 p71 p72 p73 p74 p75 p76 p77 p78 p79 p80 p81 p82 p83 p84 p85 p86 : Pos} (hl : (p22.endLine == p29.line) = true) :
    PSs X [.Assign [.Subscript (.Name "town" p1) (.Constant (.str "count") 0 p2) p3] (.BinOp (.Subscript (.Name "town" p4) (.Constant (.str "count") 0 p5) p6) .Add (.Constant (.int 1) 0 p7) p8) p9,
      .Assign [.Name "at" p10] (.IfExp (.Name "script" p11) (.BinOp (.Subscript (.Name "town" p12) (.Constant (.str "count") 0 p13) p14) .Mod (.Call (.Name "len" p15) [.Name "script" p16] [] p17) p18) (.Constant (.int 0) 0 p19) p20) p21,
      .Assign [.Name "rest" p23] (.Call (.Attribute (.Subscript (.Name "town" p24) (.Constant (.str "rests") 0 p25) p26) "get" p22) [.Name "at" p27, .IfExp (.Name "script" p28) (.Subscript (.Name "script" p30) (.Name "at" p31) p32) (.Constant (.int 0) 0 p33) p34] [] p29) p35,
      .If (.Compare (.Name "rest" p36) [.GtE] [.BinOp (.Constant (.int 10) 0 p37) .Pow (.Constant (.int 18) 0 p38) p39] p40)
        [.Assign [.Subscript (.Subscript (.Name "town" p41) (.Constant (.str "rests") 0 p42) p43) (.Name "at" p44) p45] (.BinOp (.Name "rest" p46) .FloorDiv (.Name "many" p47) p48) p49, .Return (some (.BinOp (.Name "rest" p50) .Mod (.Name "many" p51) p52)) p53] [] p54,
      .Assign [.Name "number" p55] (.BinOp (.BinOp (.Name "rest" p56) .Add (.BinOp (.Constant (.int 104729) 0 p57) .Mult (.Subscript (.Name "town" p58) (.Constant (.str "count") 0 p59) p60) p61) p62) .Mod (.Constant (.int 4294967291) 0 p63) p64) p65,
      .Assign [.Name "number" p66] (.BinOp (.BinOp (.Name "number" p67) .Pow (.Constant (.int 5) 0 p68) p69) .Mod (.Constant (.int 4294967279) 0 p70) p71) p72,
      .Return (some (.BinOp (.BinOp (.BinOp (.BinOp (.BinOp (.BinOp (.Name "number" p73) .FloorDiv (.Constant (.int 64) 0 p74) p75) .Mult (.Constant (.int 69621) 0 p76) p77) .Add (.Name "number" p78) p79) .Mod (.Constant (.int 4294967231) 0 p80) p81) .FloorDiv (.Constant (.int 8) 0 p82) p83) .Mod (.Name "many" p84) p85)) p86]
      (liftS C W H0 ρ0 drawB) := by
  have hu : X.A.units + 1 < cLine := by have := Gd.rm.un; omega
  rw [← Gd.sc] at h0 h1 h2 h3 h4 h5
  have hX : X.N = drawN := Gd.N.trans hN
  have n0 : Nm X 0 "script" := ⟨by rw [hX]; rfl, h0, by decide, by decide⟩
  have n1 : Nm X 1 "town" := ⟨by rw [hX]; rfl, h1, by decide, by decide⟩
  have n2 : Nm X 2 "many" := ⟨by rw [hX]; rfl, h2, by decide, by decide⟩
  have n3 : Nm X 3 "at" := ⟨by rw [hX]; rfl, h3, by decide, by decide⟩
  have n4 : Nm X 4 "rest" := ⟨by rw [hX]; rfl, h4, by decide, by decide⟩
  have n5 : Nm X 5 "number" := ⟨by rw [hX]; rfl, h5, by decide, by decide⟩
  have tc : ∀ {q1 q2 q3 : Pos}, PE X (.Subscript (.Name "town" q1) (.Constant (.str "count") 0 q2) q3) (lift C W H0 ρ0 (tcM 1)) := fun {q1 q2 q3} => sE_tc hu n1.at_ (.inl n1.loc) n1.d1 n1.d2
  have G := Gd.toGood
  refine sS_cons (sS_tc hu n1.at_ (.inl n1.loc) n1.d1 n1.d2 rfl (sE_bin (G.bop (o := .add) rfl) tc sE_i)) ?_
  refine sS_cons (n3.asg Gd.nd rfl (sE_ife (sT_any Gd.K rfl n0.v) (sE_bin (G.bop (o := .mod) rfl) tc (sE_pr (q := .len) G rfl hb hg (sA_cons rfl n0.v sA_nil))) sE_i)) ?_
  refine sS_cons (n4.asg Gd.nd rfl (sE_tg hu n1.at_ (.inl n1.loc) n1.d1 n1.d2 rfl rfl hl n3.v (sE_ife (sT_any Gd.K rfl n0.v) (sE_idx (by have := Gd.rm.un; omega) Gd.K rfl n0.v n3.v) sE_i))) ?_
  refine sS_cons (sS_ife (sT_cmp rfl (cmp_bl (op := .GtE) rfl) (G.cop (o := .ge) rfl) n4.v (sE_bin (G.bop (o := .pow) rfl) sE_i sE_i)) (sS_cons (sS_tr hu n1.at_ (.inl n1.loc) n1.d1 n1.d2 rfl rfl (sE_bin (G.bop (o := .fdiv) rfl) n4.v n2.v) n3.v) (sS_cons (sS_ret (sE_bin (G.bop (o := .mod) rfl) n4.v n2.v)) sS_nil)) sS_nil) ?_
  refine sS_cons (n5.asg Gd.nd rfl (sE_bin (G.bop (o := .mod) rfl) (sE_bin (G.bop (o := .add) rfl) n4.v (sE_bin (G.bop (o := .mul) rfl) sE_i tc)) sE_i)) ?_
  refine sS_cons (n5.asg Gd.nd rfl (sE_bin (G.bop (o := .mod) rfl) (sE_bin (G.bop (o := .pow) rfl) n5.v sE_i) sE_i)) ?_
  exact sS_cons (sS_ret (sE_bin (G.bop (o := .mod) rfl) (sE_bin (G.bop (o := .fdiv) rfl) (sE_bin (G.bop (o := .mod) rfl) (sE_bin (G.bop (o := .add) rfl) (sE_bin (G.bop (o := .mul) rfl) (sE_bin (G.bop (o := .fdiv) rfl) n5.v sE_i) sE_i) n5.v) sE_i) sE_i) n2.v)) sS_nil
end
end
end MC
namespace MC
open PySem PySem.Spec L2 PyProof.Rows
/-- a caught error, from now on tracked -/
def heldO (a : Addr) (oe : Obj) : HO := .frz oe (.ext fun h => ∃ o, h.get? a = some o)
section
variable {X : Cx} {pins : List (Addr × Obj)} {σ : L2.St} {H : Hp} {s : Shared}
theorem inv_hold {a : Addr} {oe : Obj} {fs : Array Value} (I : Inv X pins σ H s) (ha : s.heap.get? a = some oe) (hd : oe.data = .fields fs) (na : H a = none) (nL : a ≠ X.env.locals) (n0 : X.s_0.heap.get? a = none) (np : ∀ p ∈ X.pn ++ pins, p.1 ≠ a) :
    Inv X pins σ (upd H a (heldO a oe)) s where
  ok := I.ok
  os := I.os
  bare := I.bare
  base := {
    keep := I.base.keep
    slot := I.base.slot
    free := fun b o q n hx => by
      rw [upd_ne (fun z => by rw [z, n0] at q; cases q)]
      exact I.base.free b o q n hx
    there := I.base.there
    tups := fun b xs q => (by rw [upd_ne (ne_of_none (I.base.tups b xs q) na)]; exact I.base.tups b xs q)
    frzs := fun b o u q => (by rw [upd_ne (ne_of_none (I.base.frzs b o u q) na)]; exact I.base.frzs b o u q)
    tbls := fun b ps q => by
      obtain ⟨m, z⟩ := I.base.tbls b ps q
      exact ⟨m, by rw [upd_ne (ne_of_none z na)]; exact z⟩ }
  loc := I.loc
  cell := I.cell
  free := by
    rw [upd_ne (Ne.symm nL)]
    exact I.free
  freeC := fun x c e => by
    rw [upd_ne (fun z => by
      obtain ⟨v, o, ho, hv⟩ := I.cell x c e
      rw [z, ha] at ho
      cases ho
      rw [hd] at hv
      cases hv)]
    exact I.freeC x c e
  pin := fun p hp => by
    obtain ⟨q1, q2, q3⟩ := I.pin p hp
    exact ⟨q1, by rw [upd_ne (np p hp)]; exact q2, q3⟩
  hok := I.hok.laidN (fun _ _ q => q) na ⟨ha, ⟨oe, ha⟩, ⟨oe, ha⟩, fun h1 h2 ⟨o, ho⟩ k => ⟨o, k o ho⟩⟩
  len := I.len
end
/-- what the clause 'except x as n' wishes: the error is caught, and tracked -/
def wHold (K : PySem.W.Frag) (c : Value) (i : Nat) (ts : TS) (D : Ends) : WX := fun cls d σ H => PySem.W.exmOne K cls c = some true ∧
  ∀ (a : Addr) (oe : Obj) (fs : Array Value), H a = none → Zc cls d oe → oe.data = .fields fs → ts { nx := fun σ' H' => D.nx (σ'.set i none) H', rt := D.rt, bk := fun σ' H' => D.bk (σ'.set i none) H', ct := fun σ' H' => D.ct (σ'.set i none) H' } (σ.set i (some (.ref a))) (upd H a (heldO a oe))
section
variable {X : Cx} {x n : Str} {c : Value} {i : Nat} {body suite : List Stmt} {b₀ : Stmt} {np pos pos' : Pos} {tb : WX → TS} {ts : TS}
theorem ps_try_hold (hs : X.stack = X.env :: X.outer) (hf : X.env.frame = some X.env.locals) (hx0 : X.ex = []) (hN : X.N.Nodup) (hi : X.N[i]? = some n) (hln : X.env.kindOf n = some .local) (hc : Names X x c)
    (hb : ∀ (W : WX) (pn : List (Addr × Obj)) (xe : Value → Shared → Prop), Takes (X.tr pn xe) W → PSs (X.tr pn xe) body (tb W))
    (hsu : ∀ (a : Addr) (pn : List (Addr × Obj)), PSs (X.suite a pn) (b₀ :: suite) ts) :
    PS X (.Try body [.ExceptHandler (some (.Name x np)) (some n) (b₀ :: suite) pos'] [] [] pos) (fun D σ H => tb (wHold X.K c i ts D) D σ H) := by
  refine ⟨fun pins s σ H D I h => ?_⟩
  have ok := I.ok
  have fr0 : X.A.frames = some (X.env :: X.outer) := ok.frames.trans (by rw [hs])
  have lc : L2.Loc X.env.scope n := .inl hln
  refine wpAny_Try_except ?_
  have run := (hb (wHold X.K c i ts D) (X.pn ++ pins) (fun e s₁ => wpAny (model X.prog X.w) X.A (noteFrame e X.env) (fun _ s₂ => wpAny (model X.prog X.w) X.A (setFlight e none) (fun _ s₃ =>
    wpAny (model X.prog X.w) X.A (handleBy e X.env [.ExceptHandler (some (.Name x np)) (some n) (b₀ :: suite) pos']) (SP X pins D) X.xe s₃) X.xe s₂) X.xe s₁) (fun u s' xx => ?_)).run [] s σ H D (I.toTry _) h
  · refine wpAny_mono run (fun f s1 q => ?_) (fun e s1 he => he)
    cases f with
    | next =>
      obtain ⟨σ1, H1, J, q⟩ := q
      exact wpAny_execs_nil ⟨σ1, H1, J.ofTry ok, q⟩
    | ret u =>
      obtain ⟨v, σ1, H1, J, r, q⟩ := q
      exact ⟨v, σ1, H1, J.ofTry ok, r, q⟩
    | brk =>
      obtain ⟨σ1, H1, J, q⟩ := q
      exact ⟨σ1, H1, J.ofTry ok, q⟩
    | cont =>
      obtain ⟨σ1, H1, J, q⟩ := q
      exact ⟨σ1, H1, J.ofTry ok, q⟩
  · obtain ⟨a, B, sI, pins', σ1, H1, cls, d, rfl, Jt, nb, up, sk, na, os, ag, hb1, wish⟩ := xx
    have J : Inv X pins σ1 H1 sI := Jt.ofTry ok
    have sk1 : Sky B (X.env :: X.outer) a (Zc cls d) X.env.locals s'.heap := by
      rw [← hs]
      exact sk
    show wpAny (model X.prog X.w) X.A (noteFrame (.ref a) X.env) _ _ _
    refine Sky.land Zc.steady fr0 hf sk1 fun hA fA upA => ?_
    have JA : Inv X pins σ1 H1 { s' with heap := hA } := J.landed nb fA.1 (up.trans upA) os ag
    obtain ⟨oA, vA, heA, hzA, hdA⟩ := fA.there
    have noFr : a ∉ frs (X.env :: X.outer) := fun hm => by
      obtain ⟨_, o1, e1, hnf⟩ := fA.2.2.1.mem hm
      rw [heA] at e1
      cases e1
      exact hnf _ hdA
    have neL : a ≠ X.env.locals := fun z => noFr (List.mem_filterMap.mpr ⟨X.env, List.mem_cons_self, by rw [hf, z]⟩)
    have noB : B.get? a = none := fA.2.1
    have noI : sI.heap.get? a = none := by
      cases e : sI.heap.get? a with
      | none => rfl
      | some o =>
        have z := nb a o e (by rw [hs]; exact noFr)
        rw [noB] at z
        cases z
    have no0 : X.s_0.heap.get? a = none := by
      cases e : X.s_0.heap.get? a with
      | none => rfl
      | some o =>
        obtain ⟨o1, z⟩ := J.base.there a o e (by rw [hx0]; exact fun z => nomatch z)
        rw [noI] at z
        cases z
    have noP : ∀ p ∈ X.pn ++ pins, p.1 ≠ a := fun p hp z => by
      have q := (J.pin p hp).1
      rw [z, noI] at q
      cases q
    have toS : ∀ {σ2 : L2.St} {H2 : Hp} {s2 : Shared}, Inv X pins σ2 H2 s2 → Inv (X.suite a (X.pn ++ pins)) [] σ2 H2 s2 := fun I2 => ⟨I2.ok.suite _ _, I2.os, I2.bare, I2.base, I2.loc, I2.cell, I2.free, I2.freeC, fun p hp => I2.pin p (by rw [List.append_nil] at hp; exact hp), I2.hok, I2.len⟩
    have ofS : ∀ {pn' : List (Addr × Obj)} {σ2 : L2.St} {H2 : Hp} {s2 : Shared}, Inv (X.suite a (X.pn ++ pins)) pn' σ2 H2 s2 → Inv X pins σ2 H2 s2 := fun I2 => ⟨ok, I2.os, I2.bare, I2.base, I2.loc, I2.cell, I2.free, I2.freeC, fun p hp => I2.pin p (List.mem_append_left _ hp), I2.hok, I2.len⟩
    have SA := toS JA
    refine wpAny_handleBy_cons (codeAny_handlers_test ?_) (by intro q; cases q)
    have lt : PySem.W.Looks (model X.prog X.w) hA (typeOf (.ref a)) cls := fun A Q E s k q => wpAny_typeOf_ref (k _ _ heA) (by rw [hzA.1]; exact q)
    have lm := PySem.W.exm_one (M := model X.prog X.w) JA.kIn lt hb1
    have test : ∀ {Q : Value → Shared → Prop} {E : Value → Shared → Prop}, Q c { s' with heap := hA } → wpAny (model X.prog X.w) (X.A.mark (some (.ref a))) (eval (.Name x np) X.env) Q E { s' with heap := hA } := fun {Q E} q => by
      obtain ⟨g1, g2, g3 | ⟨g3, g4, g5⟩⟩ := hc
      · exact ld_glob (X := X.suite a (X.pn ++ pins)) SA g1 g3 q g2
      · exact ld_blt (X := X.suite a (X.pn ++ pins)) SA g1 g3 g4 q g5 g2
    refine test (lm.here ?_)
    refine codeAny_handlers_suite_as ?_
    refine HandSPX.lands_againZ fA fun hC fC upC => ?_
    obtain ⟨oC, vC, heC, hzC, hdC⟩ := fC.there
    have JC : Inv X pins σ1 H1 { s' with heap := hC } := J.landed nb fC.1 ((up.trans upA).trans upC) os ag
    have SC := toS (inv_hold JC heC hdC na neL no0 noP)
    refine store_ok (X := X.suite a (X.pn ++ pins)) (v := .ref a) SC hN hi lc rfl (fun s5 S5 => ?_) (.inr hln)
    refine wpAny_mono ((hsu a (X.pn ++ pins)).run [] s5 _ _ _ S5 (wish a oC vC na hzC hdC)) (fun f s6 hsp => ?_) (fun _ _ z => False.elim z)
    have fin : ∀ {σ6 : L2.St} {H6 : Hp} {Q : Shared → Prop}, Inv (X.suite a (X.pn ++ pins)) [] σ6 H6 s6 → (∀ s7, Inv X pins (σ6.set i none) H6 s7 → Q s7) →
        wpAny (model X.prog X.w) X.A (do bindName X.env n .none; unbindBehindTheSuite X.env n pos') (fun _ s7 => Q s7) X.xe s6 := fun {σ6 H6 Q} S6 hq => gone_ok (ofS S6) hN hi hln hq
    cases f with
    | next =>
      obtain ⟨σ6, H6, S6, q6⟩ := hsp
      exact fin S6 fun s7 J7 => ⟨_, _, J7, q6⟩
    | brk =>
      obtain ⟨σ6, H6, S6, q6⟩ := hsp
      exact fin S6 fun s7 J7 => ⟨_, _, J7, q6⟩
    | cont =>
      obtain ⟨σ6, H6, S6, q6⟩ := hsp
      exact fin S6 fun s7 J7 => ⟨_, _, J7, q6⟩
    | ret u =>
      obtain ⟨v6, σ6, H6, S6, r6, q6⟩ := hsp
      exact fin S6 fun s7 J7 => ⟨_, _, _, J7, r6, q6⟩
end
end MC
namespace MC
open PySem PySem.Spec L2
/-! ### the defs, one above the other -/
abbrev Ph := Nat → List D → M D
def upto (F : Nat → Ph → List D → M D) : Nat → Ph
  | 0 => fun _ _ => M.fail
  | n + 1 => fun f => if f < n then upto F n f else if f = n then F n (upto F n) else fun _ => M.fail
def Phi (F : Nat → Ph → List D → M D) : Ph := fun f => F f (upto F f)
theorem upto_lt {F : Nat → Ph → List D → M D} : ∀ {n m : Nat}, m < n → upto F n m = Phi F m
  | 0, m, h => absurd h (Nat.not_lt_zero _)
  | n + 1, m, h => by
    unfold upto
    by_cases e : m < n
    · rw [if_pos e]
      exact upto_lt e
    · have : m = n := by omega
      subst this
      rw [if_neg e, if_pos rfl]
      rfl
section
variable {T : Tab} {C : Cn} {P : Program} {w : World} {mg : Str → Option Value} {base : Heap} {F : Nat → Ph → List D → M D} {n : Nat}
theorem Mdl.upto (Md : Mdl T C P w mg base (Phi F) n) : Mdl T C P w mg base (MC.upto F n) n :=
  ⟨Md.bl, Md.cn, fun f hf hu => by rw [upto_lt hf]; exact Md.fn f hf hu, Md.ex, Md.fl, Md.xs, Md.lm, Md.rs⟩
/-- what is shown of one def -/
def DefOk (T : Tab) (C : Cn) (P : Program) (w : World) (mg : Str → Option Value) (base : Heap) (n : Nat) (Fn : List D → M D) : Prop :=
  ∃ fd ps, FnOk P w C.K mg base (L2.CX P w) (n + 1) (He.ga C.K (T.nm n)) fd ps (spM C ps.length Fn) ∧ ps.length = T.ar n ∧ mg (T.nm n) = some (.ref (He.ga C.K (T.nm n))) ∧ PySem.W.keepIn C.K (.ref (He.ga C.K (T.nm n))) = true ∧ Binds C.K fd ps [] ∧
    ∀ m ks perm, T.kw.contains (n, m, ks, perm) = true → KBn C.K fd ps m ks (permL perm) (permL perm)
theorem Mdl.step (Md : Mdl T C P w mg base (Phi F) n) (h : DefOk T C P w mg base n (Phi F n)) : Mdl T C P w mg base (Phi F) (n + 1) :=
  ⟨Md.bl, Md.cn, fun f hf hu => by
    by_cases e : f < n
    · exact Md.fn f e hu
    · have : f = n := by omega
      subst this
      exact h, Md.ex, Md.fl, Md.xs, Md.lm, Md.rs⟩
/-- one that is not used -/
theorem Mdl.skip (Md : Mdl T C P w mg base (Phi F) n) (h : T.us.contains n = false) : Mdl T C P w mg base (Phi F) (n + 1) :=
  ⟨Md.bl, Md.cn, fun f hf hu => by
    by_cases e : f < n
    · exact Md.fn f e hu
    · have : f = n := by omega
      subst this
      exact absurd (h.symm.trans hu) Bool.false_ne_true, Md.ex, Md.fl, Md.xs, Md.lm, Md.rs⟩
/-! ### parameters -/
theorem binds_of {x : Str} {a : Arguments} {bd : List Stmt} {sc : Scope} {f : Addr} {fd : FuncData} {ps : List Str} (Fd : FunD C.K x x a bd sc [] [] f fd)
    (h : ∀ (kV doc pm : Value) (an : Option Addr) (cdv ct : Value) (us : List Value), us.length = ps.length → bindArgs (PySem.W.fnOf x x a bd sc .none kV doc pm an cdv ct) ⟨us, []⟩ = pure (ps.zip us)) : Binds C.K fd ps [] := by
  obtain ⟨oc, od, dV, kV, doc, pm, an, cdv, ct, osl, rfl, lk, hcd, hD, hK⟩ := Fd.ex
  rcases hD with ⟨_, rfl⟩ | ⟨z, _⟩
  · exact .all fun us hl => h kV doc pm an cdv ct us hl
  · exact absurd rfl z
theorem vals_get {vs : List V} {us : List Value} (r : Vals vs us) (i : Nat) : (vs[i]? = none ∧ us[i]? = none) ∨ ∃ v u, vs[i]? = some v ∧ us[i]? = some u ∧ RelV v u := by
  cases e : vs[i]? with
  | none => exact .inl ⟨rfl, List.getElem?_eq_none (by rw [← r.length]; exact List.getElem?_eq_none_iff.mp e)⟩
  | some v =>
    obtain ⟨u, hu, ru⟩ := r.get e
    exact .inr ⟨v, u, rfl, hu, ru⟩
theorem vals_perm {vs zs : List V} {us ws : List Value} (r : Vals (vs ++ zs) (us ++ ws)) : ∀ perm : List Nat, Vals (permL perm vs zs) (permL perm us ws)
  | [] => .nil
  | i :: p => by
    unfold permL
    rw [List.filterMap_cons, List.filterMap_cons]
    rcases vals_get r i with ⟨e1, e2⟩ | ⟨v, u, e1, e2, e3⟩
    · rw [e1, e2]
      exact vals_perm r p
    · rw [e1, e2]
      exact .cons e3 (vals_perm r p)
/-- with keywords: by a look -/
theorem kbn_of {x : Str} {a : Arguments} {bd : List Stmt} {sc : Scope} {f : Addr} {fd : FuncData} {m : Nat} {ks ps : List Str} {perm : List Nat} (Fd : FunD C.K x x a bd sc [] [] f fd)
    (h : ∀ (kV doc pm : Value) (an : Option Addr) (cdv ct : Value) (us ws : List Value), us.length = m → ws.length = ks.length → bindArgs (PySem.W.fnOf x x a bd sc .none kV doc pm an cdv ct) ⟨us, ks.zip ws⟩ = pure (ps.zip (permL perm us ws))) : KBn C.K fd ps m ks (permL perm) (permL perm) := by
  obtain ⟨oc, od, dV, kV, doc, pm, an, cdv, ct, osl, rfl, lk, hcd, hD, hK⟩ := Fd.ex
  rcases hD with ⟨_, rfl⟩ | ⟨z, _⟩
  · exact ⟨fun s us ws _ h1 h2 => .of_eq (h kV doc pm an cdv ct us ws h1 h2), fun {vs us zs ws} r1 r2 => vals_perm (r1.append r2) perm⟩
  · exact absurd rfl z
/-! ### a def's scope -/
def parK (sc : Scope) (x : Str) : Bool := match sc.names.lookup x with
  | some .local => true
  | some .cell => true
  | _ => false
def isFree : NameKind → Bool
  | .free => true
  | _ => false
def isFun : ScopeKind → Bool
  | .function => true
  | _ => false
def scB (N Pn : List Str) (sc : Scope) : Bool := isFun sc.kind && !sc.isCoroutine && !sc.isGenerator && decide N.Nodup && decide (N.take Pn.length = Pn) && Pn.all (parK sc) && sc.names.all fun y => !isFree y.2
theorem scope_by {N Pn : List Str} {sc : Scope} (h : scB N Pn sc = true) : FnScope N Pn sc := by
  unfold scB at h
  simp only [Bool.and_eq_true, Bool.not_eq_true', decide_eq_true_eq, List.all_eq_true] at h
  obtain ⟨⟨⟨⟨⟨⟨h1, h2⟩, h3⟩, h4⟩, h5⟩, h6⟩, h7⟩ := h
  refine ⟨?_, h2, h3, h4, h5, fun x hx => ?_, fun y hy z => ?_⟩
  · cases e : sc.kind <;> rw [e] at h1 <;> first | rfl | cases h1
  · have := h6 x hx
    unfold parK at this
    split at this <;> simp_all
  · have := h7 y hy
    rw [z] at this
    cases this
/-! ### one def -/
section
variable {a : Arguments} {bd : List Stmt} {sc : Scope} {fd : FuncData} {N ps : List Str} {k fuel : Nat} {b : List S}
theorem step_def (Md : Mdl T C P w mg base (Phi F) n) {x : Str} (hx : T.nm n = x) (Fd : FunD C.K x x a bd sc [] [] (He.ga C.K x) fd) (hm : mg x = some (.ref (He.ga C.K x)))
    (h : ∀ (kV doc pm : Value) (an : Option Addr) (cdv ct : Value) (us : List Value), us.length = ps.length → bindArgs (PySem.W.fnOf x x a bd sc .none kV doc pm an cdv ct) ⟨us, []⟩ = pure (ps.zip us))
    (hk : ∀ m ks perm, T.kw.contains (n, m, ks, perm) = true → ∀ (kV doc pm : Value) (an : Option Addr) (cdv ct : Value) (us ws : List Value), us.length = m → ws.length = ks.length → bindArgs (PySem.W.fnOf x x a bd sc .none kV doc pm an cdv ct) ⟨us, ks.zip ws⟩ = pure (ps.zip (permL perm us ws)))
    (S1 : scB N ps sc = true) (ha : ps.length = T.ar n) (hN : N.length = ps.length + k) {lam : Bool} (hlam : lam = true → T.lm.contains x = true) (hc : chkSs T ⟨N, sc, fun _ => true, n, lam⟩ b bd = true) (hF : F n = fun Φ as => body Φ fuel b k as) : Mdl T C P w mg base (Phi F) (n + 1) := by
  refine Md.step ⟨fd, ps, ?_, ha, by rw [hx]; exact hm, by rw [hx]; exact Fd.kp, binds_of Fd h, fun m ks perm z => kbn_of Fd (hk m ks perm z)⟩
  rw [hx]
  exact def_okB Md.upto Fd (scope_by S1) hlam hN (fun X W H0 ρ0 Gd => sndSs (fuel := fuel) b bd Gd hc) fun as _ => by
    unfold Phi
    rw [hF]
    rfl
/-- one that is run by hand -/
theorem step_own (Md : Mdl T C P w mg base (Phi F) n) {x : Str} (hx : T.nm n = x) (Fd : FunD C.K x x a bd sc [] [] (He.ga C.K x) fd) (hm : mg x = some (.ref (He.ga C.K x)))
    (h : ∀ (kV doc pm : Value) (an : Option Addr) (cdv ct : Value) (us : List Value), us.length = ps.length → bindArgs (PySem.W.fnOf x x a bd sc .none kV doc pm an cdv ct) ⟨us, []⟩ = pure (ps.zip us))
    (hk : ∀ m ks perm, T.kw.contains (n, m, ks, perm) = true → False)
    (S1 : scB N ps sc = true) (ha : ps.length = T.ar n) (hN : N.length = ps.length + k) {mB : List Sl → M Flow'} (hB : ∀ (X : Cx) (W : WX) (H0 : Hp) (ρ0 : Rho), GoodS T C (upto F n) ⟨N, sc, fun _ => true, n, false⟩ X W → PSs X bd (liftS C W H0 ρ0 mB))
    (hF : ∀ as, as.length = ps.length → F n (upto F n) as = M.bind (mB (as.map Sl.imm ++ List.replicate k .un)) retD) : Mdl T C P w mg base (Phi F) (n + 1) := by
  refine Md.step ⟨fd, ps, ?_, ha, by rw [hx]; exact hm, by rw [hx]; exact Fd.kp, binds_of Fd h, fun m ks perm z => (hk m ks perm z).elim⟩
  rw [hx]
  exact def_okB (lam := false) Md.upto Fd (scope_by S1) (fun z => absurd z Bool.false_ne_true) hN hB hF
/-- one that never comes -/
theorem step_bot (Md : Mdl T C P w mg base (Phi F) n) {x : Str} (hx : T.nm n = x) (Fd : FunD C.K x x a bd sc [] [] (He.ga C.K x) fd) (hm : mg x = some (.ref (He.ga C.K x)))
    (h : ∀ (kV doc pm : Value) (an : Option Addr) (cdv ct : Value) (us : List Value), us.length = ps.length → bindArgs (PySem.W.fnOf x x a bd sc .none kV doc pm an cdv ct) ⟨us, []⟩ = pure (ps.zip us))
    (hk : ∀ m ks perm, T.kw.contains (n, m, ks, perm) = true → False) (ha : ps.length = T.ar n) (hF : F n = fun _ _ => M.fail) : Mdl T C P w mg base (Phi F) (n + 1) := by
  refine Md.step ⟨fd, ps, ⟨fun vs H Q E q => q.1, fun A outer s H args us vs Q E _ _ _ _ hsp => ?_⟩, ha, by rw [hx]; exact hm, by rw [hx]; exact Fd.kp, binds_of Fd h, fun m ks perm z => (hk m ks perm z).elim⟩
  obtain ⟨_, ρ, g, ds, _, _, r, g', z, _⟩ := hsp
  unfold Phi at z
  rw [hF] at z
  cases z
end
end
end MC
namespace MC
open PySem PySem.Spec L2
theorem Mdl.skips {T : Tab} {C : Cn} {P : Program} {w : World} {mg : Str → Option Value} {base : Heap} {F : Nat → Ph → List D → M D} {n : Nat} (Md : Mdl T C P w mg base (Phi F) n) : ∀ {k : Nat}, n ≤ k → ((List.range (k - n)).all fun i => !T.us.contains (n + i)) = true → Mdl T C P w mg base (Phi F) k := fun {k} h1 h2 => by
  obtain ⟨j, rfl⟩ := Nat.exists_eq_add_of_le h1
  replace h2 : ((List.range j).all fun i => !T.us.contains (n + i)) = true := by
    have e : n + j - n = j := by omega
    rw [e] at h2
    exact h2
  clear h1
  induction j with
  | zero => exact Md
  | succ j ih =>
    have ih := ih (by
      rw [List.all_eq_true] at h2 ⊢
      exact fun i hi => h2 i (List.mem_range.mpr (by have := List.mem_range.mp hi; omega)))
    refine ih.skip ?_
    have := List.all_eq_true.mp h2 j (List.mem_range.mpr (by omega))
    simpa using this
theorem upto_congr {F F' : Nat → Ph → List D → M D} : ∀ {n : Nat}, (∀ m, m < n → F m = F' m) → upto F n = upto F' n
  | 0, _ => rfl
  | n + 1, h => by
    have ih := upto_congr (n := n) fun m hm => h m (by omega)
    unfold upto
    rw [ih, h n (by omega)]
theorem phi_glob {F F' : Nat → Ph → List D → M D} {B f : Nat} (h : ∀ m, m < B → F m = F' m) (hf : f < B) : Phi F f = Phi F' f := by
  unfold Phi
  rw [upto_congr fun m hm => h m (by omega), h f hf]
end MC
namespace MC
open PySem PySem.Spec L2
theorem FnOk.cx {P : Program} {w : World} {K : PySem.W.Frag} {mg : Str → Option Value} {base : Heap} {CX CX' : CXT} {k : Nat} {f : Addr} {fd : FuncData} {ps : List Str} {sp : Sp} (F : FnOk P w K mg base CX k f fd ps sp) (h : ∀ o H s E e s', CX o H s E e s' → CX' o H s E e s') :
    FnOk P w K mg base CX' k f fd ps sp := by
  refine ⟨F.len, fun A outer s H args us vs Q E hr he hb hv hs => codeAny_mono (F.run A outer s H args us vs Q E hr he hb hv hs) fun r s' q => ?_⟩
  cases r with
  | error e => exact h _ _ _ _ _ _ q
  | ok fl => cases fl <;> exact q
theorem Sto.nil {T : List (Addr × Str)} {H : Hp} (h : LamX.Tabs T H) : Sto T [] [] H := ⟨rfl, fun n o p h _ => by simp at h, List.nodup_nil, h⟩
theorem scr_of {K : PySem.W.Frag} {H : Hp} {a : Addr} {ns : List Int} (hO : Only H) (h : SqL K H a (ns.map V.int)) : ScrAt K H a ns := by
  rcases h with (h | h) | h
  · rcases hO a with z | ⟨o, xs, z⟩
    · rw [z] at h; cases h
    · rw [z] at h; cases h
  · exact .inl h
  · exact .inr h
end MC
namespace MC
open PySem PySem.Spec L2
theorem bind_ok {α β : Type} {m : M α} {f : α → M β} {g g1 : G} {a : α} (h : m g = some (.ok a, g1)) : M.bind m f g = f a g1 := by
  unfold M.bind
  rw [h]
theorem bind_ex {α β : Type} {m : M α} {f : α → M β} {g g1 : G} {c : Str} (h : m g = some (.ex c, g1)) : M.bind m f g = some (.ex c, g1) := by
  unfold M.bind
  rw [h]
theorem seq_ok {m k : List Sl → M Flow'} {σ σ' : List Sl} {g g1 : G} (h : m σ g = some (.ok (.next σ'), g1)) : seqM m k σ g = k σ' g1 := by
  unfold seqM
  rw [bind_ok h]
theorem seq_ret {m k : List Sl → M Flow'} {σ : List Sl} {d : D} {g g1 : G} (h : m σ g = some (.ok (.ret d), g1)) : seqM m k σ g = some (.ok (.ret d), g1) := by
  unfold seqM
  rw [bind_ok h]
  rfl
/-- the one town: few keys -/
structure TwOk (len : Nat) (g : G) : Prop where
  ex : ∃ c r, g = [.town c r] ∧ (r.map (·.1)).Nodup ∧ ∀ q ∈ r, 0 ≤ q.1 ∧ q.1 < max 1 len
theorem few {n : Nat} : ∀ {l : List Int}, l.Nodup → (∀ q ∈ l, 0 ≤ q ∧ q < (n : Int)) → l.length ≤ n := by
  induction n with
  | zero =>
    intro l _ h
    cases l with
    | nil => exact Nat.le_refl _
    | cons a l =>
      have := h a List.mem_cons_self
      omega
  | succ n ih =>
    intro l nd h
    have h1 : (l.erase (n : Int)).length ≤ n := by
      refine ih (nd.erase _) fun q hq => ?_
      have hm := (nd.mem_erase_iff).mp hq
      have := h q hm.2
      have hne : q ≠ (n : Int) := hm.1
      omega
    by_cases hm : (n : Int) ∈ l
    · have := List.length_erase_of_mem hm
      omega
    · rw [List.erase_of_not_mem hm] at h1
      omega
theorem putT_keys {r : List (Int × Int)} {a v : Int} : (putT r a v).map (·.1) = if (r.any fun q => decide (q.1 = a)) = true then r.map (·.1) else r.map (·.1) ++ [a] := by
  unfold putT
  split
  · rw [List.map_map]
    refine List.map_congr_left fun q _ => ?_
    show (if q.1 = a then (q.1, v) else q).1 = q.1
    split <;> rfl
  · simp
theorem putT_ok {len : Nat} {r : List (Int × Int)} {a v : Int} (nd : (r.map (·.1)).Nodup) (h : ∀ q ∈ r, 0 ≤ q.1 ∧ q.1 < max 1 len) (ha : 0 ≤ a ∧ a < max 1 len) : ((putT r a v).map (·.1)).Nodup ∧ ∀ q ∈ putT r a v, 0 ≤ q.1 ∧ q.1 < max 1 len := by
  have key : ((putT r a v).map (·.1)).Nodup ∧ ∀ k : Int, k ∈ (putT r a v).map (·.1) → 0 ≤ k ∧ k < max 1 len := by
    rw [putT_keys]
    have h' : ∀ k : Int, k ∈ r.map (·.1) → 0 ≤ k ∧ k < max 1 len := fun k hk => by
      obtain ⟨q, hq, rfl⟩ := List.mem_map.mp hk
      exact h q hq
    split
    · exact ⟨nd, h'⟩
    · rename_i hn
      refine ⟨?_, fun k hk => ?_⟩
      · rw [List.nodup_append]
        refine ⟨nd, by simp, fun x hx y hy z => ?_⟩
        have hy : y = a := by simpa using hy
        subst hy
        subst z
        apply hn
        obtain ⟨q, hq, e⟩ := List.mem_map.mp hx
        exact List.any_eq_true.mpr ⟨q, hq, by simp [e]⟩
      · rcases List.mem_append.mp hk with z | z
        · exact h' k z
        · have : k = a := by simpa using z
          subst this
          exact ha
  exact ⟨key.1, fun q hq => key.2 q.1 (List.mem_map_of_mem hq)⟩
theorem op_mod {i j : Int} (h : 0 < j) : opD .mod (.int i) (.int j) = some (.int (i % j)) := by
  show (if 0 < j then some (D.int (i % j)) else none) = _
  rw [if_pos h]
theorem op_fdiv {i j : Int} (h : 0 < j) (h2 : j < 1073741824) : opD .fdiv (.int i) (.int j) = some (.int (i / j)) := by
  show (if 0 < j ∧ j < 1073741824 then some (D.int (i / j)) else none) = _
  rw [if_pos ⟨h, h2⟩]
theorem op_mulL {i j : Int} (h : -lim < i ∧ i < lim) : opD .mul (.int i) (.int j) = some (.int (i * j)) := by
  show (if (-lim < i ∧ i < lim) ∨ (-lim < j ∧ j < lim) then some (D.int (i * j)) else none) = _
  rw [if_pos (.inl h)]
theorem op_mulR {i j : Int} (h : -lim < j ∧ j < lim) : opD .mul (.int i) (.int j) = some (.int (i * j)) := by
  show (if (-lim < i ∧ i < lim) ∨ (-lim < j ∧ j < lim) then some (D.int (i * j)) else none) = _
  rw [if_pos (.inr h)]
theorem op_pow {i j : Int} (h : 0 ≤ j ∧ j ≤ 1000000 ∧ i.natAbs < 2 ^ 64) : opD .pow (.int i) (.int j) = some (.int (i ^ j.toNat)) := by
  show (if 0 ≤ j ∧ j ≤ 1000000 ∧ i.natAbs < 2 ^ 64 then some (D.int (i ^ j.toNat)) else none) = _
  rw [if_pos h]
theorem opM_ok {o : Op2} {a b : List Sl → M D} {σ : List Sl} {g : G} {x y z : D} (h1 : a σ g = some (.ok x, g)) (h2 : b σ g = some (.ok y, g)) (h3 : opD o x y = some z) : opM o a b σ g = some (.ok z, g) := by
  unfold opM
  rw [bind_ok h1, bind_ok h2, h3]
  rfl
section
variable {ns : List Int} {m c a rest num : Int} {r : List (Int × Int)}
theorem draw_ok {g : G} (hl : ns.length ≤ 63) (m0 : 0 < m) (m1 : m < 1073741824) (h : TwOk ns.length g) : ∃ v g', drawF [.scr ns, .obj 0, .int m] g = some (.ok (.int v), g') ∧ 0 ≤ v ∧ v < m ∧ TwOk ns.length g' := by
  obtain ⟨c, r, rfl, nd, hk⟩ := h.ex
  -- where it stands
  have hat : ∃ a, 0 ≤ a ∧ a < max 1 (ns.length : Int) ∧ (ns ≠ [] → a < ns.length) ∧ (asgM 3 (ifeM (vM 0) (opM .mod (tcM 1) (lenM (vM 0))) (cM (.int 0)))) [.imm (.scr ns), .imm (.obj 0), .imm (.int m), .un, .un, .un] [.town (c + 1) r] = some (.ok (.next [.imm (.scr ns), .imm (.obj 0), .imm (.int m), .imm (.int a), .un, .un]), [.town (c + 1) r]) := by
    cases e : ns with
    | nil => exact ⟨0, by omega, by simp; omega, fun z => absurd rfl z, rfl⟩
    | cons x t =>
      have hp : (0 : Int) < ((x :: t).length : Nat) := by rw [List.length_cons]; omega
      refine ⟨(c + 1) % ((x :: t).length : Nat), Int.emod_nonneg _ (by omega), ?_, fun _ => Int.emod_lt_of_pos _ hp, ?_⟩
      · have := Int.emod_lt_of_pos (c + 1) hp
        omega
      · unfold asgM
        have h1 : (ifeM (vM 0) (opM .mod (tcM 1) (lenM (vM 0))) (cM (.int 0))) [.imm (.scr (x :: t)), .imm (.obj 0), .imm (.int m), .un, .un, .un] [.town (c + 1) r] = some (.ok (.int ((c + 1) % ((x :: t).length : Nat))), [.town (c + 1) r]) := by
          show opM .mod (tcM 1) (lenM (vM 0)) [.imm (.scr (x :: t)), .imm (.obj 0), .imm (.int m), .un, .un, .un] [.town (c + 1) r] = _
          exact opM_ok (x := .int (c + 1)) (y := .int ((x :: t).length : Nat)) rfl rfl (op_mod hp)
        rw [bind_ok h1]
        rfl
  obtain ⟨a, a0, a1, a2, hA⟩ := hat
  have hrest : ∃ rest, (asgM 4 (tgM 1 (vM 3) (ifeM (vM 0) (ixM (vM 0) (vM 3)) (cM (.int 0))))) [.imm (.scr ns), .imm (.obj 0), .imm (.int m), .imm (.int a), .un, .un] [.town (c + 1) r] = some (.ok (.next [.imm (.scr ns), .imm (.obj 0), .imm (.int m), .imm (.int a), .imm (.int rest), .un]), [.town (c + 1) r]) := by
    have hd : ∃ d, (ifeM (vM 0) (ixM (vM 0) (vM 3)) (cM (.int 0))) [.imm (.scr ns), .imm (.obj 0), .imm (.int m), .imm (.int a), .un, .un] [.town (c + 1) r] = some (.ok (.int d), [.town (c + 1) r]) := by
      cases e : ns with
      | nil => exact ⟨0, rfl⟩
      | cons x t =>
        have hlt : a < ((x :: t).length : Nat) := by rw [← e]; exact a2 (by rw [e]; simp)
        have hi : ixN (x :: t).length a = some a.toNat := by
          unfold ixN
          rw [if_pos a0, if_pos hlt]
        have hj : a.toNat < (x :: t).length := by omega
        refine ⟨(x :: t)[a.toNat], ?_⟩
        show M.opt ((atI (x :: t) a).map D.int) [.town (c + 1) r] = _
        unfold atI
        rw [hi]
        show M.opt (((x :: t)[a.toNat]?).map D.int) _ = _
        rw [List.getElem?_eq_getElem hj]
        rfl
    obtain ⟨d, hd⟩ := hd
    cases q : getT r a with
    | some v =>
      refine ⟨v, ?_⟩
      unfold asgM tgM
      rw [bind_ok (a := .int v) (g1 := [.town (c + 1) r])]
      · rfl
      · rw [bind_ok (a := (0, c + 1, r)) (g1 := [.town (c + 1) r]) rfl, bind_ok (a := .int a) (g1 := [.town (c + 1) r]) rfl, bind_ok hd, bind_ok (a := (0, c + 1, r)) (g1 := [.town (c + 1) r]) rfl]
        show M.pure (match getT r a with | some v => D.int v | none => D.int d) _ = _
        rw [q]
        rfl
    | none =>
      refine ⟨d, ?_⟩
      unfold asgM tgM
      rw [bind_ok (a := .int d) (g1 := [.town (c + 1) r])]
      · rfl
      · rw [bind_ok (a := (0, c + 1, r)) (g1 := [.town (c + 1) r]) rfl, bind_ok (a := .int a) (g1 := [.town (c + 1) r]) rfl, bind_ok hd, bind_ok (a := (0, c + 1, r)) (g1 := [.town (c + 1) r]) rfl]
        show M.pure (match getT r a with | some v => D.int v | none => D.int d) _ = _
        rw [q]
        rfl
  obtain ⟨rest, hR⟩ := hrest
  have len : r.length ≤ 63 := by
    have h1 := few (n := max 1 ns.length) nd fun k hk' => by
      obtain ⟨q, hq, rfl⟩ := List.mem_map.mp hk'
      have := hk q hq
      omega
    rw [List.length_map] at h1
    omega
  suffices hs : ∃ v g', drawB [.imm (.scr ns), .imm (.obj 0), .imm (.int m), .un, .un, .un] [.town c r] = some (.ok (.ret (.int v)), g') ∧ 0 ≤ v ∧ v < m ∧ TwOk ns.length g' by
    obtain ⟨v, g', h1, h2⟩ := hs
    refine ⟨v, g', ?_, h2⟩
    show M.bind (drawB [.imm (.scr ns), .imm (.obj 0), .imm (.int m), .un, .un, .un]) retD [.town c r] = _
    rw [bind_ok h1]
    rfl
  unfold drawB
  rw [seq_ok (σ' := [Sl.imm (.scr ns), .imm (.obj 0), .imm (.int m), .un, .un, .un]) (g1 := [.town (c + 1) r]) rfl, seq_ok hA, seq_ok hR]
  by_cases hb : 1000000000000000000 ≤ rest
  · have hc : opM .ge (vM 4) (opM .pow (cM (.int 10)) (cM (.int 18))) [.imm (.scr ns), .imm (.obj 0), .imm (.int m), .imm (.int a), .imm (.int rest), .un] [.town (c + 1) r] = some (.ok (.bl true), [.town (c + 1) r]) := by
      refine opM_ok (x := .int rest) (y := .int (10 ^ 18)) rfl rfl ?_
      show some (D.bl (decide ((10 : Int) ^ 18 ≤ rest))) = _
      rw [decide_eq_true (by have : (10 : Int) ^ 18 = 1000000000000000000 := by decide
                             omega)]
    have hi : (ifS (opM .ge (vM 4) (opM .pow (cM (.int 10)) (cM (.int 18)))) (seqM (trS 1 (vM 3) (opM .fdiv (vM 4) (vM 2))) (seqM (retM (opM .mod (vM 4) (vM 2))) nilM)) nilM) [.imm (.scr ns), .imm (.obj 0), .imm (.int m), .imm (.int a), .imm (.int rest), .un] [.town (c + 1) r] = some (.ok (.ret (.int (rest % m))), [.town (c + 1) (putT r a (rest / m))]) := by
      unfold ifS
      rw [bind_ok hc, bind_ok (a := true) (g1 := [.town (c + 1) r]) rfl]
      show seqM (trS 1 (vM 3) (opM .fdiv (vM 4) (vM 2))) (seqM (retM (opM .mod (vM 4) (vM 2))) nilM) [.imm (.scr ns), .imm (.obj 0), .imm (.int m), .imm (.int a), .imm (.int rest), .un] [.town (c + 1) r] = _
      have ht : trS 1 (vM 3) (opM .fdiv (vM 4) (vM 2)) [.imm (.scr ns), .imm (.obj 0), .imm (.int m), .imm (.int a), .imm (.int rest), .un] [.town (c + 1) r] = some (.ok (.next [.imm (.scr ns), .imm (.obj 0), .imm (.int m), .imm (.int a), .imm (.int rest), .un]), [.town (c + 1) (putT r a (rest / m))]) := by
        unfold trS
        rw [bind_ok (opM_ok (x := .int rest) (y := .int m) rfl rfl (op_fdiv m0 m1)), bind_ok (a := (0, c + 1, r)) (g1 := [.town (c + 1) r]) rfl, bind_ok (a := .int a) (g1 := [.town (c + 1) r]) rfl, bind_ok (a := (0, c + 1, r)) (g1 := [.town (c + 1) r]) rfl]
        show (if r.length < sizeLine then M.bind (twP 0 (c + 1) (putT r a (rest / m))) (fun _ => M.pure (Flow'.next _)) else M.fail) _ = _
        rw [if_pos (by rw [sizeLine_eq]; omega)]
        rfl
      rw [seq_ok ht]
      refine seq_ret ?_
      unfold retM
      rw [bind_ok (opM_ok (x := .int rest) (y := .int m) rfl rfl (op_mod m0))]
      rfl
    rw [seq_ret hi]
    obtain ⟨p1, p2⟩ := putT_ok (v := rest / m) nd hk ⟨a0, by omega⟩
    exact ⟨rest % m, _, rfl, Int.emod_nonneg _ (by omega), Int.emod_lt_of_pos _ m0, ⟨_, _, rfl, p1, p2⟩⟩
  · have hc : opM .ge (vM 4) (opM .pow (cM (.int 10)) (cM (.int 18))) [.imm (.scr ns), .imm (.obj 0), .imm (.int m), .imm (.int a), .imm (.int rest), .un] [.town (c + 1) r] = some (.ok (.bl false), [.town (c + 1) r]) := by
      refine opM_ok (x := .int rest) (y := .int (10 ^ 18)) rfl rfl ?_
      show some (D.bl (decide ((10 : Int) ^ 18 ≤ rest))) = _
      rw [decide_eq_false (by have : (10 : Int) ^ 18 = 1000000000000000000 := by decide
                              omega)]
    have hi : (ifS (opM .ge (vM 4) (opM .pow (cM (.int 10)) (cM (.int 18)))) (seqM (trS 1 (vM 3) (opM .fdiv (vM 4) (vM 2))) (seqM (retM (opM .mod (vM 4) (vM 2))) nilM)) nilM) [.imm (.scr ns), .imm (.obj 0), .imm (.int m), .imm (.int a), .imm (.int rest), .un] [.town (c + 1) r] = some (.ok (.next [.imm (.scr ns), .imm (.obj 0), .imm (.int m), .imm (.int a), .imm (.int rest), .un]), [.town (c + 1) r]) := by
      unfold ifS
      rw [bind_ok hc, bind_ok (a := false) (g1 := [.town (c + 1) r]) rfl]
      rfl
    rw [seq_ok hi]
    have n1 := Int.emod_nonneg (rest + 104729 * (c + 1)) (show (4294967291 : Int) ≠ 0 by decide)
    have n2 := Int.emod_lt_of_pos (rest + 104729 * (c + 1)) (show (0 : Int) < 4294967291 by decide)
    have s5 : asgM 5 (opM .mod (opM .add (vM 4) (opM .mul (cM (.int 104729)) (tcM 1))) (cM (.int 4294967291))) [.imm (.scr ns), .imm (.obj 0), .imm (.int m), .imm (.int a), .imm (.int rest), .un] [.town (c + 1) r] = some (.ok (.next [.imm (.scr ns), .imm (.obj 0), .imm (.int m), .imm (.int a), .imm (.int rest), .imm (.int ((rest + 104729 * (c + 1)) % 4294967291))]), [.town (c + 1) r]) := by
      unfold asgM
      rw [bind_ok (opM_ok (x := .int (rest + 104729 * (c + 1))) (y := .int 4294967291) (opM_ok (x := .int rest) (y := .int (104729 * (c + 1))) rfl (opM_ok (x := .int 104729) (y := .int (c + 1)) rfl rfl (op_mulL (by unfold lim; omega))) rfl) rfl (op_mod (by decide)))]
      rfl
    rw [seq_ok s5]
    generalize (rest + 104729 * (c + 1)) % 4294967291 = k at n1 n2
    have s6 : asgM 5 (opM .mod (opM .pow (vM 5) (cM (.int 5))) (cM (.int 4294967279))) [.imm (.scr ns), .imm (.obj 0), .imm (.int m), .imm (.int a), .imm (.int rest), .imm (.int k)] [.town (c + 1) r] = some (.ok (.next [.imm (.scr ns), .imm (.obj 0), .imm (.int m), .imm (.int a), .imm (.int rest), .imm (.int (k ^ 5 % 4294967279))]), [.town (c + 1) r]) := by
      unfold asgM
      rw [bind_ok (opM_ok (x := .int (k ^ 5)) (y := .int 4294967279) (opM_ok (x := .int k) (y := .int 5) rfl rfl (op_pow ⟨by decide, by decide, by omega⟩)) rfl (op_mod (by decide)))]
      rfl
    rw [seq_ok s6]
    generalize k ^ 5 % 4294967279 = j
    have s7 : retM (opM .mod (opM .fdiv (opM .mod (opM .add (opM .mul (opM .fdiv (vM 5) (cM (.int 64))) (cM (.int 69621))) (vM 5)) (cM (.int 4294967231))) (cM (.int 8))) (vM 2)) [.imm (.scr ns), .imm (.obj 0), .imm (.int m), .imm (.int a), .imm (.int rest), .imm (.int j)] [.town (c + 1) r] = some (.ok (.ret (.int ((j / 64 * 69621 + j) % 4294967231 / 8 % m))), [.town (c + 1) r]) := by
      unfold retM
      rw [bind_ok (opM_ok (x := .int ((j / 64 * 69621 + j) % 4294967231 / 8)) (y := .int m) (opM_ok (x := .int ((j / 64 * 69621 + j) % 4294967231)) (y := .int 8) (opM_ok (x := .int (j / 64 * 69621 + j)) (y := .int 4294967231) (opM_ok (x := .int (j / 64 * 69621)) (y := .int j) (opM_ok (x := .int (j / 64)) (y := .int 69621) (opM_ok (x := .int j) (y := .int 64) rfl rfl (op_fdiv (by decide) (by decide))) rfl (op_mulR (by unfold lim; omega))) rfl rfl) rfl (op_mod (by decide))) rfl (op_fdiv (by decide) (by decide))) rfl (op_mod m0))]
      rfl
    rw [seq_ret s7]
    exact ⟨_, _, rfl, Int.emod_nonneg _ (by omega), Int.emod_lt_of_pos _ m0, ⟨_, _, rfl, nd, hk⟩⟩
end
end MC
namespace MC
open PySem PySem.Spec L2
/-! ### comprehensions that leave the store -/
theorem comp_pure {tg : Tg} {test : List Sl → M Bool} {elt : List Sl → M D} {σ : List Sl} {g : G} (f : D → D) (t : D → Bool) : ∀ items : List D, (∀ d ∈ items, ∃ σ', put tg d σ = some σ' ∧ test σ' g = some (.ok (t d), g) ∧ (t d = true → elt σ' g = some (.ok (f d), g))) →
    compL tg test elt σ items g = some (.ok ((items.filter t).map f), g)
  | [], _ => rfl
  | d :: r, h => by
    obtain ⟨σ', h1, h2, h3⟩ := h d List.mem_cons_self
    have ih := comp_pure f t r fun x hx => h x (List.mem_cons_of_mem _ hx)
    unfold compL
    rw [h1]
    show (M.bind (test σ') _) g = _
    rw [bind_ok h2]
    cases e : t d with
    | false =>
      rw [List.filter_cons_of_neg (by rw [e]; exact Bool.false_ne_true)]
      exact ih
    | true =>
      rw [List.filter_cons_of_pos e]
      show (M.bind (elt σ') _) g = _
      rw [bind_ok (h3 e), bind_ok ih]
      rfl
theorem noex_ok {α : Type} {m : M α} {g g' : G} {a : α} (h : m g = some (.ok a, g')) : M.noex m g = some (.ok a, g') := by
  unfold M.noex
  rw [h]
section
variable {Φ : Ph} {σ : List Sl} {g g1 g2 : G}
theorem ev_comp {elt : E} {tg : Tg} {own : List Nat} {it : It} {cs : List E} {items ds : List D} (h1 : evi Φ it σ g = some (.ok items, g1)) (h2 : compL tg (fun σ' => evt Φ cs σ') (fun σ' => ev Φ elt σ') (clear own σ) items g1 = some (.ok ds, g2)) :
    ev Φ (.comp elt tg own it cs) σ g = some (.ok (.lst ds), g2) := by
  rw [ev, bind_ok h1, bind_ok (noex_ok h2)]
  rfl
theorem ev_prim {p : Pr} {e : E} {d r : D} (h : ev Φ e σ g = some (.ok d, g1)) (h2 : prD p [d] = some r) : ev Φ (.prim p [e]) σ g = some (.ok r, g1) := by
  have : evs Φ [e] σ g = some (.ok [d], g1) := by
    rw [evs, bind_ok h, evs]
    rfl
  rw [ev, bind_ok this, h2]
  rfl
theorem asBools_map (p : D → Bool) : ∀ l : List D, asBools (l.map fun d => .bl (p d)) = some (l.map p)
  | [] => rfl
  | d :: l => by
    show (asBools (l.map fun d => D.bl (p d))).map (p d :: ·) = _
    rw [asBools_map p l]
    rfl
theorem all_map (p : D → Bool) (l : List D) : prD .all [.lst (l.map fun d => .bl (p d))] = some (.bl (l.all p)) := by
  show (asBools (l.map fun d => D.bl (p d))).map (fun bs => D.bl (bs.all id)) = _
  rw [asBools_map]
  show some (D.bl ((l.map p).all id)) = _
  rw [List.all_map]
  rfl
theorem filter_true {α : Type} (l : List α) : l.filter (fun _ => true) = l := List.filter_eq_self.mpr fun _ _ => rfl
/-- all([..]) over values, no test -/
theorem ev_all {elt : E} {tg : Tg} {own : List Nat} {it : It} {items : List D} (p : D → Bool) (h1 : evi Φ it σ g = some (.ok items, g)) (h2 : ∀ d ∈ items, ∃ σ', put tg d (clear own σ) = some σ' ∧ ev Φ elt σ' g = some (.ok (.bl (p d)), g)) :
    ev Φ (.prim .all [.comp elt tg own it []]) σ g = some (.ok (.bl (items.all p)), g) := by
  refine ev_prim (d := .lst (items.map fun d => .bl (p d))) (ev_comp h1 ?_) (all_map p items)
  have := comp_pure (tg := tg) (test := fun σ' => evt Φ [] σ') (elt := fun σ' => ev Φ elt σ') (σ := clear own σ) (g := g) (fun d => .bl (p d)) (fun _ => true) items fun d hd => by
    obtain ⟨σ', e1, e2⟩ := h2 d hd
    exact ⟨σ', e1, by rw [evt]; rfl, fun _ => e2⟩
  rw [filter_true] at this
  exact this
/-- [x for x in l if ..] -/
theorem ev_filter {i : Nat} {it : It} {c : E} {items : List D} (t : D → Bool) (hi : i < σ.length) (h1 : evi Φ it σ g = some (.ok items, g)) (h2 : ∀ d ∈ items, evt Φ [c] ((clear [i] σ).set i (.imm d)) g = some (.ok (t d), g)) :
    ev Φ (.comp (.var i) (.n i) [i] it [c]) σ g = some (.ok (.lst (items.filter t)), g) := by
  have := comp_pure (tg := .n i) (test := fun σ' => evt Φ [c] σ') (elt := fun σ' => ev Φ (.var i) σ') (σ := clear [i] σ) (g := g) (fun d => d) t items fun d hd => by
    refine ⟨(clear [i] σ).set i (.imm d), ?_, h2 d hd, fun _ => ?_⟩
    · show (if i < (σ.set i .un).length then some ((σ.set i .un).set i (.imm d)) else none) = _
      rw [if_pos (by rw [List.length_set]; exact hi)]
      rfl
    · rw [ev]
      unfold slotD slot clear clear
      rw [List.getD_eq_getElem?_getD, List.getElem?_set_self (by rw [List.length_set]; exact hi)]
      rfl
  rw [List.map_id'] at this
  exact ev_comp h1 this
end
/-! ### statements, one after another -/
section
variable {Φ : Ph} {fuel : Nat} {σ σ' : List Sl} {g g1 g2 : G} {r : List S} {e c : E} {d x : D}
theorem exs_cons {s : S} (h : ex Φ fuel s σ g = some (.ok (.next σ'), g1)) : exs Φ fuel (s :: r) σ g = exs Φ fuel r σ' g1 := by
  rw [exs, bind_ok h]
theorem exs_stop {s : S} (h : ex Φ fuel s σ g = some (.ok (.ret d), g1)) : exs Φ fuel (s :: r) σ g = some (.ok (.ret d), g1) := by
  rw [exs, bind_ok h]
  rfl
theorem exs_exc {s : S} {k : Str} (h : ex Φ fuel s σ g = some (.ex k, g1)) : exs Φ fuel (s :: r) σ g = some (.ex k, g1) := by
  rw [exs, bind_ex h]
theorem exs_ret (h : ev Φ e σ g = some (.ok d, g1)) : exs Φ fuel (.ret e :: r) σ g = some (.ok (.ret d), g1) := exs_stop (by rw [ex, bind_ok h]; rfl)
theorem exs_asg {tg : Tg} (h : ev Φ e σ g = some (.ok d, g1)) (h2 : put tg d σ = some σ') : exs Φ fuel (.asg tg e :: r) σ g = exs Φ fuel r σ' g1 := exs_cons (by rw [ex, bind_ok h, h2]; rfl)
theorem exs_exp (h : ev Φ e σ g = some (.ok d, g1)) : exs Φ fuel (.exp e :: r) σ g = exs Φ fuel r σ g1 := exs_cons (by rw [ex, bind_ok h]; rfl)
theorem exs_new {i : Nat} {l : List D} (h : ev Φ e σ g = some (.ok (.lst l), g1)) (hi : i < σ.length) : exs Φ fuel (.new i e :: r) σ g = exs Φ fuel r (σ.set i (.ml l)) g1 := exs_cons (by
  rw [ex, bind_ok h]
  show (if i < σ.length then M.pure (Flow'.next (σ.set i (.ml l))) else M.fail) g1 = _
  rw [if_pos hi]
  rfl)
theorem exs_fz {i : Nat} {l : List D} (h : slot σ i = .ml l) : exs Φ fuel (.fz i :: r) σ g = exs Φ fuel r (σ.set i (.imm (.lst l))) g := exs_cons (by
  rw [ex]
  unfold fzS
  rw [h]
  rfl)
theorem exs_app {i : Nat} {l : List D} (hs : slot σ i = .ml l) (h : ev Φ e σ g = some (.ok d, g1)) (hl : l.length < sizeLine) : exs Φ fuel (.app i e :: r) σ g = exs Φ fuel r (σ.set i (.ml (l ++ [d]))) g1 := exs_cons (by
  have h0 : mlS σ i g = some (.ok l, g) := by
    unfold mlS
    rw [hs]
    rfl
  rw [ex, bind_ok h0, bind_ok h]
  unfold appS
  rw [hs]
  show (if l.length < sizeLine then M.pure (Flow'.next (σ.set i (.ml (l ++ [d])))) else M.fail) g1 = _
  rw [if_pos hl]
  rfl)
theorem ife_t {a b : List S} (h : ev Φ c σ g = some (.ok x, g1)) (ht : truth x = some true) : ex Φ fuel (.ife c a b) σ g = exs Φ fuel a σ g1 := by
  rw [ex, bind_ok h, ht]
  rfl
theorem ife_f {a b : List S} (h : ev Φ c σ g = some (.ok x, g1)) (ht : truth x = some false) : ex Φ fuel (.ife c a b) σ g = exs Φ fuel b σ g1 := by
  rw [ex, bind_ok h, ht]
  rfl
/-- if c: return d -/
theorem exs_ifR {a b : List S} (h : ev Φ c σ g = some (.ok (.bl true), g1)) (h2 : exs Φ fuel a σ g1 = some (.ok (.ret d), g2)) : exs Φ fuel (.ife c a b :: r) σ g = some (.ok (.ret d), g2) := exs_stop ((ife_t h rfl).trans h2)
theorem exs_ifN {a : List S} (h : ev Φ c σ g = some (.ok (.bl false), g1)) : exs Φ fuel (.ife c a [] :: r) σ g = exs Φ fuel r σ g1 := exs_cons ((ife_f h rfl).trans (by rw [exs]; rfl))
theorem exs_nil : exs Φ fuel [] σ g = some (.ok (.next σ), g) := by rw [exs]; rfl
theorem body_ret {b : List S} {k : Nat} {as : List D} (h : exs Φ fuel b (as.map Sl.imm ++ List.replicate k .un) g = some (.ok (.ret d), g1)) : body Φ fuel b k as g = some (.ok d, g1) := by
  unfold body
  rw [bind_ok h]
  rfl
theorem body_next {b : List S} {k : Nat} {as : List D} (h : exs Φ fuel b (as.map Sl.imm ++ List.replicate k .un) g = some (.ok (.next σ), g1)) : body Φ fuel b k as g = some (.ok .non, g1) := by
  unfold body
  rw [bind_ok h]
  rfl
theorem ev_call {f : Nat} {es : List E} {ds : List D} {q : R D} (h : evs Φ es σ g = some (.ok ds, g1)) (h2 : Φ f ds g1 = some (q, g2)) : ev Φ (.call f es) σ g = some (q, g2) := by
  rw [ev, bind_ok h, h2]
theorem evs_one (h : ev Φ e σ g = some (.ok d, g1)) : evs Φ [e] σ g = some (.ok [d], g1) := by
  rw [evs, bind_ok h, evs]
  rfl
theorem evs_cons {es : List E} {ds : List D} (h : ev Φ e σ g = some (.ok d, g1)) (h2 : evs Φ es σ g1 = some (.ok ds, g2)) : evs Φ (e :: es) σ g = some (.ok (d :: ds), g2) := by
  rw [evs, bind_ok h, bind_ok h2]
  rfl
end
/-! ### plain values -/
mutual
def gd : Nat → D → Bool
  | _, .non => true
  | _, .bl _ => true
  | _, .int _ => true
  | _, .str x => PyData.strOk x
  | 0, .tup _ => false
  | n + 1, .tup l => gds n l
  | 0, .lst _ => false
  | n + 1, .lst l => gds n l
  | _, _ => false
def gds : Nat → List D → Bool
  | _, [] => true
  | n, d :: l => gd n d && gds n l
end
mutual
theorem gd_sh : ∀ (n : Nat) (d : D), gd n d = true → d.py.canLay0 = true ∧ d.py.depth ≤ n
  | _, .non, _ => ⟨rfl, Nat.zero_le _⟩
  | _, .bl _, _ => ⟨rfl, Nat.zero_le _⟩
  | _, .int _, _ => ⟨rfl, Nat.zero_le _⟩
  | n, .str x, h => by
    unfold gd at h
    exact ⟨h, Nat.zero_le _⟩
  | 0, .tup l, h => by unfold gd at h; cases h
  | n + 1, .tup l, h => by
    unfold gd at h
    obtain ⟨h1, h2⟩ := gds_sh n l h
    refine ⟨h1, ?_⟩
    show PyData.depthAll (pys l) + 1 ≤ n + 1
    omega
  | 0, .lst l, h => by unfold gd at h; cases h
  | n + 1, .lst l, h => by
    unfold gd at h
    obtain ⟨h1, h2⟩ := gds_sh n l h
    refine ⟨h1, ?_⟩
    show PyData.depthAll (pys l) + 1 ≤ n + 1
    omega
  | n, .dct _ _ _, h => by unfold gd at h; cases h
  | n, .ins _ _ _, h => by unfold gd at h; cases h
  | n, .fn _, h => by unfold gd at h; cases h
  | n, .obj _, h => by unfold gd at h; cases h
  | n, .scr _, h => by unfold gd at h; cases h
  | n, .exc _, h => by unfold gd at h; cases h
theorem gds_sh : ∀ (n : Nat) (l : List D), gds n l = true → PyData.canLayAll0 (pys l) = true ∧ PyData.depthAll (pys l) ≤ n
  | n, [], _ => ⟨rfl, Nat.zero_le _⟩
  | n, d :: l, h => by
    unfold gds at h
    obtain ⟨h1, h2⟩ := Bool.and_eq_true_iff.mp h
    obtain ⟨a1, a2⟩ := gd_sh n d h1
    obtain ⟨b1, b2⟩ := gds_sh n l h2
    refine ⟨Bool.and_eq_true_iff.mpr ⟨a1, b1⟩, ?_⟩
    show max _ _ ≤ n
    omega
end
theorem gd_ok {n : Nat} {d : D} (h : gd n d = true) (hn : n ≤ 64) : d.sh = true := by
  obtain ⟨h1, h2⟩ := gd_sh n d h
  unfold D.sh SeqAt.shaped
  rw [h1, decide_eq_true (by omega)]
  rfl
end MC
namespace MC
open PySem PySem.Spec L2
theorem cut_from {α : Type} (l : List α) (k : Nat) : cutL l (some (k : Int)) none = l.drop k := by
  unfold cutL
  rw [HT.sIx_nat, HT.sIx_none]
  by_cases h : k ≤ l.length
  · rw [Nat.min_eq_left h, List.take_of_length_le (by rw [List.length_drop]; omega)]
  · rw [Nat.min_eq_right (by omega), List.drop_length, List.take_nil, List.drop_eq_nil_of_le (by omega)]
theorem cut_to {α : Type} (l : List α) (k : Nat) : cutL l none (some (k : Int)) = l.take k := by
  unfold cutL
  rw [HT.sIx_nat, HT.sIx_none, List.drop_zero, Nat.sub_zero]
  by_cases h : k ≤ l.length
  · rw [Nat.min_eq_left h]
  · rw [Nat.min_eq_right (by omega), List.take_length, List.take_of_length_le (by omega)]
theorem cut_neg1 {α : Type} (l : List α) : cutL l none (some (-1)) = l.dropLast := by
  unfold cutL
  rw [HT.sIx_none, List.drop_zero, Nat.sub_zero]
  show l.take ((-1 + (l.length : Int)).toNat) = _
  rw [List.dropLast_eq_take]
  congr 1
  omega
section
variable {Φ : Ph} {σ : List Sl} {g g1 g2 : G} {e e' : E} {es : List E} {d : D} {q : R D}
theorem or_t (h : ev Φ e σ g = some (.ok (.bl true), g1)) : ev Φ (.or (e :: es)) σ g = some (.ok (.bl true), g1) := by
  rw [ev]
  cases es with
  | nil => rw [evOr]; exact h
  | cons e' es => rw [evOr, bind_ok h]; rfl; intro z; cases z
theorem or_f (h : ev Φ e σ g = some (.ok (.bl false), g1)) (h2 : ev Φ (.or (e' :: es)) σ g1 = some (q, g2)) : ev Φ (.or (e :: e' :: es)) σ g = some (q, g2) := by
  rw [ev] at h2 ⊢
  rw [evOr, bind_ok h]
  exact h2
  intro z; cases z
theorem or_1 (h : ev Φ e σ g = some (q, g1)) : ev Φ (.or [e]) σ g = some (q, g1) := by
  rw [ev, evOr]
  exact h
theorem and_f (h : ev Φ e σ g = some (.ok (.bl false), g1)) : ev Φ (.and (e :: es)) σ g = some (.ok (.bl false), g1) := by
  rw [ev]
  cases es with
  | nil => rw [evAnd]; exact h
  | cons e' es => rw [evAnd, bind_ok h]; rfl; intro z; cases z
theorem and_t (h : ev Φ e σ g = some (.ok (.bl true), g1)) (h2 : ev Φ (.and (e' :: es)) σ g1 = some (q, g2)) : ev Φ (.and (e :: e' :: es)) σ g = some (q, g2) := by
  rw [ev] at h2 ⊢
  rw [evAnd, bind_ok h]
  exact h2
  intro z; cases z
theorem and_1 (h : ev Φ e σ g = some (q, g1)) : ev Φ (.and [e]) σ g = some (q, g1) := by
  rw [ev, evAnd]
  exact h
/-- by the value of the first -/
theorem and_b {b b' : Bool} (h : ev Φ e σ g = some (.ok (.bl b), g)) (h2 : b = true → ev Φ (.and (e' :: es)) σ g = some (.ok (.bl b'), g)) : ev Φ (.and (e :: e' :: es)) σ g = some (.ok (.bl (b && b')), g) := by
  cases b with
  | true => exact and_t h (h2 rfl)
  | false => exact and_f h
theorem or_b {b b' : Bool} (h : ev Φ e σ g = some (.ok (.bl b), g)) (h2 : b = false → ev Φ (.or (e' :: es)) σ g = some (.ok (.bl b'), g)) : ev Φ (.or (e :: e' :: es)) σ g = some (.ok (.bl (b || b')), g) := by
  cases b with
  | false => exact or_f h (h2 rfl)
  | true => exact or_t h
theorem not_b {b : Bool} (h : ev Φ e σ g = some (.ok (.bl b), g1)) : ev Φ (.not e) σ g = some (.ok (.bl (!b)), g1) := by
  rw [ev, bind_ok h]
  rfl
theorem op_b {o : Op2} {x y z : D} (h : ev Φ e σ g = some (.ok x, g1)) (h2 : ev Φ e' σ g1 = some (.ok y, g2)) (h3 : opD o x y = some z) : ev Φ (.op o e e') σ g = some (.ok z, g2) := by
  rw [ev, bind_ok h, bind_ok h2, h3]
  rfl
theorem op_eq {x y : D} (h1 : x.sh = true) (h2 : y.sh = true) : opD .eq x y = some (.bl (eqD x y)) := by
  show (if (x.sh && y.sh) = true then _ else _) = _
  rw [h1, h2]
  rfl
theorem op_ne {x y : D} (h1 : x.sh = true) (h2 : y.sh = true) : opD .ne x y = some (.bl (!eqD x y)) := by
  show (if (x.sh && y.sh) = true then _ else _) = _
  rw [h1, h2]
  rfl
theorem op_mem {x : D} {l : List D} (h1 : x.sh = true) (h2 : (D.tup l).sh = true) : opD .mem x (.tup l) = some (.bl (l.any fun z => eqD z x)) := by
  show (if (x.sh && (D.tup l).sh) = true then some (l.any fun z => eqD z x) else none).map D.bl = _
  rw [h1, h2]
  rfl
end
/-- if c: return d, by the value of c -/
theorem exs_ifB {Φ : Ph} {fuel : Nat} {σ : List Sl} {g : G} {c e : E} {r : List S} {b b' : Bool} {d : Bool} (h : ev Φ c σ g = some (.ok (.bl b), g)) (he : ev Φ e σ g = some (.ok (.bl d), g)) (h2 : b = false → exs Φ fuel r σ g = some (.ok (.ret (.bl b')), g)) :
    exs Φ fuel (.ife c [.ret e] [] :: r) σ g = some (.ok (.ret (.bl (bif b then d else b'))), g) := by
  cases b with
  | true => exact exs_ifR h (exs_ret he)
  | false => rw [exs_ifN h]; exact h2 rfl
end MC
namespace MC
open PySem PySem.Spec L2
/-! ### runs that draw -/
def Got {α : Type} (len : Nat) (m : M α) (Q : α → Prop) : Prop := ∀ g, TwOk len g → ∃ a g', m g = some (.ok a, g') ∧ Q a ∧ TwOk len g'
section
variable {len : Nat} {Φ : Ph} {fuel : Nat} {σ σ' : List Sl}
theorem Got.bind {α β : Type} {m : M α} {f : α → M β} {P : α → Prop} {Q : β → Prop} (h1 : Got len m P) (h2 : ∀ a, P a → Got len (f a) Q) : Got len (M.bind m f) Q := fun g hg => by
  obtain ⟨a, g1, e1, pa, hg1⟩ := h1 g hg
  obtain ⟨b, g2, e2, qb, hg2⟩ := h2 a pa g1 hg1
  exact ⟨b, g2, by rw [bind_ok e1]; exact e2, qb, hg2⟩
theorem Got.pure {α : Type} {a : α} {Q : α → Prop} (h : Q a) : Got len (M.pure a) Q := fun g hg => ⟨a, g, rfl, h, hg⟩
theorem Got.of {α : Type} {m : M α} {a : α} {Q : α → Prop} (h : ∀ g, m g = some (.ok a, g)) (q : Q a) : Got len m Q := fun g hg => ⟨a, g, h g, q, hg⟩
theorem Got.imp {α : Type} {m : M α} {P Q : α → Prop} (h : Got len m P) (k : ∀ a, P a → Q a) : Got len m Q := fun g hg => by
  obtain ⟨a, g1, e1, pa, hg1⟩ := h g hg
  exact ⟨a, g1, e1, k a pa, hg1⟩
theorem Got.eq {α : Type} {m m' : M α} {Q : α → Prop} (h : Got len m Q) (e : m' = m) : Got len m' Q := e ▸ h
theorem Got.opt {α : Type} {o : Option α} {a : α} {Q : α → Prop} (h : o = some a) (q : Q a) : Got len (M.opt o) Q := by
  rw [h]
  exact .pure q
/-- the draw -/
theorem got_draw {ns : List Int} {m : Int} (hl : ns.length ≤ 63) (m0 : 0 < m) (m1 : m < 1073741824) : Got ns.length (drawF [.scr ns, .obj 0, .int m]) fun d => ∃ v, d = .int v ∧ 0 ≤ v ∧ v < m := fun g hg => by
  obtain ⟨v, g', e, h1, h2, h3⟩ := draw_ok hl m0 m1 hg
  exact ⟨.int v, g', e, ⟨v, rfl, h1, h2⟩, h3⟩
/-! ### comprehensions -/
theorem got_noex {α : Type} {m : M α} {Q : α → Prop} (h : Got len m Q) : Got len (M.noex m) Q := fun g hg => by
  obtain ⟨a, g1, e1, pa, hg1⟩ := h g hg
  exact ⟨a, g1, noex_ok e1, pa, hg1⟩
theorem got_compL {tg : Tg} {test : List Sl → M Bool} {elt : List Sl → M D} (T : D → Prop) (P : D → D → Prop) : ∀ items : List D, (∀ d ∈ items, ∃ σ', put tg d σ = some σ' ∧ Got len (test σ') (fun t => t = true → T d) ∧ (T d → Got len (elt σ') (P d))) →
    Got len (compL tg test elt σ items) fun ds => ∃ ks : List D, ks.Sublist items ∧ (∀ k ∈ ks, T k) ∧ ds.length = ks.length ∧ ∀ (i : Nat) k d, ks[i]? = some k → ds[i]? = some d → P k d
  | [], _ => .pure ⟨[], .slnil, by simp, rfl, by simp⟩
  | d :: r, h => by
    obtain ⟨σ', h1, h2, h3⟩ := h d List.mem_cons_self
    have ih := got_compL T P r fun x hx => h x (List.mem_cons_of_mem _ hx)
    unfold compL
    rw [h1]
    show Got len (M.bind (test σ') _) _
    refine h2.bind fun t ht => ?_
    cases t with
    | false => exact ih.imp fun ds ⟨ks, a, b, c, e⟩ => ⟨ks, a.cons _, b, c, e⟩
    | true =>
      refine (h3 (ht rfl)).bind fun x px => ih.bind fun xs ⟨ks, a, b, c, e⟩ => .pure ⟨d :: ks, a.cons_cons _, fun k hk => ?_, by rw [List.length_cons, List.length_cons, c], fun i k y hi hy => ?_⟩
      · rcases List.mem_cons.mp hk with rfl | hk
        · exact ht rfl
        · exact b k hk
      · cases i with
        | zero =>
          simp at hi hy
          subst hi hy
          exact px
        | succ i => exact e i k y (by simpa using hi) (by simpa using hy)
/-! ### loops -/
theorem got_loop {body : List Sl → M Flow'} {tg : Tg} {tmp : List Nat} (I : Nat → List Sl → Prop) : ∀ (items : List D) (k : Nat) (σ : List Sl), I k σ → (∀ (i : Nat) d σ, items[i]? = some d → I (k + i) σ → ∃ σ1, put tg d σ = some σ1 ∧ Got len (body σ1) (fun f => ∃ σ2, f = .next σ2 ∧ I (k + i + 1) (clear tmp σ2))) →
    Got len (loopF body tg tmp items σ) fun f => ∃ σ', f = .next σ' ∧ I (k + items.length) σ'
  | [], k, σ, h0, _ => .pure ⟨σ, rfl, h0⟩
  | d :: r, k, σ, h0, h => by
    obtain ⟨σ1, h1, h2⟩ := h 0 d σ rfl h0
    unfold loopF
    rw [h1]
    show Got len (M.bind (body σ1) _) _
    refine h2.bind fun f hf => ?_
    obtain ⟨σ2, rfl, h3⟩ := hf
    have := got_loop (body := body) (tg := tg) (tmp := tmp) I r (k + 1) (clear tmp σ2) h3 fun i x σ hi hI => by
      have := h (i + 1) x σ (by simpa using hi) (by rw [show k + (i + 1) = k + 1 + i by omega]; exact hI)
      rw [show k + (i + 1) + 1 = k + 1 + i + 1 by omega] at this
      exact this
    rw [show k + 1 + r.length = k + (d :: r).length by rw [List.length_cons]; omega] at this
    exact this
/-! ### statements -/
theorem got_cons {s : S} {r : List S} {P : List Sl → Prop} {Q : Flow' → Prop} (h : Got len (ex Φ fuel s σ) fun f => ∃ σ', f = .next σ' ∧ P σ') (h2 : ∀ σ', P σ' → Got len (exs Φ fuel r σ') Q) : Got len (exs Φ fuel (s :: r) σ) Q := by
  refine Got.eq (h.bind (f := fun f => match f with
    | .next σ' => exs Φ fuel r σ'
    | f => M.pure f) (Q := Q) fun f hf => ?_) (by rw [exs] <;> rfl)
  obtain ⟨σ', rfl, p⟩ := hf
  exact h2 σ' p
theorem got_asg {tg : Tg} {e : E} {r : List S} {P : D → Prop} {Q : Flow' → Prop} (h : Got len (ev Φ e σ) P) (h2 : ∀ d, P d → ∃ σ', put tg d σ = some σ' ∧ Got len (exs Φ fuel r σ') Q) : Got len (exs Φ fuel (.asg tg e :: r) σ) Q := by
  refine got_cons (P := fun σ' => ∃ d, P d ∧ put tg d σ = some σ') ?_ fun σ' ⟨d, pd, hp⟩ => ?_
  · refine Got.eq (h.bind (f := fun d => M.bind (M.opt (put tg d σ)) fun σ' => M.pure (.next σ')) fun d pd => ?_) (by rw [ex])
    obtain ⟨σ', hp, _⟩ := h2 d pd
    rw [hp]
    exact .pure ⟨σ', rfl, d, pd, hp⟩
  · obtain ⟨σ'', hp', hq⟩ := h2 d pd
    rw [hp] at hp'
    cases hp'
    exact hq
theorem got_ret {e : E} {r : List S} {P : D → Prop} (h : Got len (ev Φ e σ) P) : Got len (exs Φ fuel (.ret e :: r) σ) fun f => ∃ d, f = .ret d ∧ P d := by
  have h1 : Got len (ex Φ fuel (.ret e) σ) fun f => ∃ d, f = .ret d ∧ P d := Got.eq (h.bind (f := fun d => M.pure (Flow'.ret d)) fun d pd => .pure ⟨d, rfl, pd⟩) (by rw [ex])
  refine Got.eq (h1.bind (f := fun f => match f with
    | .next σ' => exs Φ fuel r σ'
    | f => M.pure f) fun f hf => ?_) (by rw [exs] <;> rfl)
  obtain ⟨d, rfl, p⟩ := hf
  exact .pure ⟨d, rfl, p⟩
theorem got_body {b : List S} {k : Nat} {as : List D} {P : D → Prop} (h : Got len (exs Φ fuel b (as.map Sl.imm ++ List.replicate k .un)) fun f => ∃ d, f = .ret d ∧ P d) : Got len (body Φ fuel b k as) P := by
  unfold body
  refine h.bind fun f hf => ?_
  obtain ⟨d, rfl, p⟩ := hf
  exact .pure p
theorem got_call {f : Nat} {es : List E} {ds : List D} {P : D → Prop} (h : ∀ g, evs Φ es σ g = some (.ok ds, g)) (h2 : Got len (Φ f ds) P) : Got len (ev Φ (.call f es) σ) P :=
  Got.eq ((Got.of (Q := fun x => x = ds) h rfl).bind (f := fun ds => Φ f ds) fun x hx => by subst hx; exact h2) (by rw [ev])
theorem got_ife {c a b : E} {P : Bool → Prop} {Q : D → Prop} (h : Got len (ev Φ c σ) fun d => ∃ t, d = .bl t ∧ P t) (ha : P true → Got len (ev Φ a σ) Q) (hb : P false → Got len (ev Φ b σ) Q) : Got len (ev Φ (.ife c a b) σ) Q := by
  refine Got.eq (h.bind (f := fun x => M.bind (M.opt (truth x)) fun t => match t with
    | true => ev Φ a σ
    | false => ev Φ b σ) fun d hd => ?_) (by rw [ev] <;> rfl)
  obtain ⟨t, rfl, p⟩ := hd
  cases t with
  | true => exact ha p
  | false => exact hb p
theorem got_op {o : Op2} {a b : E} {P Q : D → Prop} {R' : D → Prop} (h1 : Got len (ev Φ a σ) P) (h2 : Got len (ev Φ b σ) Q) (h3 : ∀ x y, P x → Q y → ∃ z, opD o x y = some z ∧ R' z) : Got len (ev Φ (.op o a b) σ) R' := by
  refine Got.eq (h1.bind (f := fun x => M.bind (ev Φ b σ) fun y => M.opt (opD o x y)) fun x px => h2.bind fun y py => ?_) (by rw [ev])
  obtain ⟨z, e, r⟩ := h3 x y px py
  exact .opt e r
theorem got_cst {d : D} : Got len (ev Φ (.cst d) σ) fun x => x = d := .of (fun g => by rw [ev]; rfl) rfl
theorem got_comp {elt : E} {tg : Tg} {own : List Nat} {it : It} {cs : List E} {items : List D} {Q : List D → Prop} (h1 : Got len (evi Φ it σ) fun x => x = items) (h2 : Got len (compL tg (fun σ' => evt Φ cs σ') (fun σ' => ev Φ elt σ') (clear own σ) items) Q) : Got len (ev Φ (.comp elt tg own it cs) σ) fun d => ∃ l, d = .lst l ∧ Q l := by
  refine Got.eq (h1.bind (f := fun items => M.bind (M.noex (compL tg (fun σ' => evt Φ cs σ') (fun σ' => ev Φ elt σ') (clear own σ) items)) fun ds => M.pure (.lst ds)) fun x hx => ?_) (by rw [ev])
  subst hx
  exact (got_noex h2).bind fun l ql => .pure ⟨l, rfl, ql⟩
theorem got_prim1 {p : Pr} {e : E} {P Q : D → Prop} (h : Got len (ev Φ e σ) P) (h2 : ∀ d, P d → ∃ z, prD p [d] = some z ∧ Q z) : Got len (ev Φ (.prim p [e]) σ) Q := by
  have h1 : Got len (evs Φ [e] σ) fun ds => ∃ d, ds = [d] ∧ P d := Got.eq (h.bind (f := fun d => M.bind (M.pure []) fun ds => M.pure (d :: ds)) fun d pd => .pure ⟨d, rfl, pd⟩) (by rw [evs, evs])
  refine Got.eq (h1.bind (f := fun ds => M.opt (prD p ds)) fun ds hd => ?_) (by rw [ev])
  obtain ⟨d, rfl, pd⟩ := hd
  obtain ⟨z, e, q⟩ := h2 d pd
  exact .opt e q
theorem got_nil : Got len (evs Φ [] σ) fun ds => ds = [] := .of (fun g => by rw [evs]; rfl) rfl
theorem got_evs {e : E} {es : List E} {P : D → Prop} {Q : List D → Prop} (h : Got len (ev Φ e σ) P) (h2 : Got len (evs Φ es σ) Q) : Got len (evs Φ (e :: es) σ) fun ds => ∃ d r, ds = d :: r ∧ P d ∧ Q r :=
  Got.eq (h.bind (f := fun d => M.bind (evs Φ es σ) fun ds => M.pure (d :: ds)) fun d pd => h2.bind fun r qr => .pure ⟨d, r, rfl, pd, qr⟩) (by rw [evs])
theorem got_tup {es : List E} {Q : List D → Prop} (h : Got len (evs Φ es σ) Q) : Got len (ev Φ (.tup es) σ) fun d => ∃ ds, d = .tup ds ∧ Q ds :=
  Got.eq (h.bind (f := fun ds => M.pure (.tup ds)) fun ds q => .pure ⟨ds, rfl, q⟩) (by rw [ev])
theorem got_lst {es : List E} {Q : List D → Prop} (h : Got len (evs Φ es σ) Q) : Got len (ev Φ (.lst es) σ) fun d => ∃ ds, d = .lst ds ∧ Q ds :=
  Got.eq (h.bind (f := fun ds => M.pure (.lst ds)) fun ds q => .pure ⟨ds, rfl, q⟩) (by rw [ev])
theorem got_idx {a b : E} {P Q R' : D → Prop} (h1 : Got len (ev Φ a σ) P) (h2 : Got len (ev Φ b σ) Q) (h3 : ∀ x y, P x → Q y → ∃ z, ixOf x y = some z ∧ R' z) : Got len (ev Φ (.idx a b) σ) R' := by
  refine Got.eq (h1.bind (f := fun x => M.bind (ev Φ b σ) fun y => M.opt (ixOf x y)) fun x px => h2.bind fun y py => ?_) (by rw [ev])
  obtain ⟨z, e, r⟩ := h3 x y px py
  exact .opt e r
/-- an expression that draws nothing -/
theorem got_e {e : E} {d : D} (h : ∀ g, ev Φ e σ g = some (.ok d, g)) : Got len (ev Φ e σ) fun x => x = d := .of h rfl
theorem got_app {i : Nat} {e : E} {l : List D} {P : D → Prop} (hs : slot σ i = .ml l) (hl : l.length < sizeLine) (h : Got len (ev Φ e σ) P) : Got len (exs Φ fuel [.app i e] σ) fun f => ∃ d, f = .next (σ.set i (.ml (l ++ [d]))) ∧ P d := fun g hg => by
  obtain ⟨d, g1, e1, pd, hg1⟩ := h g hg
  refine ⟨_, g1, ?_, ⟨d, rfl, pd⟩, hg1⟩
  rw [exs_app hs e1 hl]
  exact exs_nil
/-- for -/
theorem got_for {tg : Tg} {it : It} {b : List S} {tmp : List Nat} {items : List D} {Q : Flow' → Prop} (h1 : Got len (evi Φ it σ) fun x => x = items) (h2 : Got len (loopF (fun σ' => exs Φ fuel b σ') tg tmp items σ) Q) : Got len (ex Φ fuel (.forr tg it b tmp) σ) Q :=
  Got.eq (h1.bind (f := fun items => loopF (fun σ' => exs Φ fuel b σ') tg tmp items σ) fun x hx => by subst hx; exact h2) (by rw [ex])
theorem got_comp' {elt : E} {tg : Tg} {own : List Nat} {it : It} {cs : List E} {P Q : List D → Prop} (h1 : Got len (evi Φ it σ) P) (h2 : ∀ items, P items → Got len (compL tg (fun σ' => evt Φ cs σ') (fun σ' => ev Φ elt σ') (clear own σ) items) Q) : Got len (ev Φ (.comp elt tg own it cs) σ) fun d => ∃ l, d = .lst l ∧ Q l := by
  refine Got.eq (h1.bind (f := fun items => M.bind (M.noex (compL tg (fun σ' => evt Φ cs σ') (fun σ' => ev Φ elt σ') (clear own σ) items)) fun ds => M.pure (.lst ds)) fun x hx => ?_) (by rw [ev])
  exact (got_noex (h2 x hx)).bind fun l ql => .pure ⟨l, rfl, ql⟩
theorem got_rng1 {e : E} {lo hi : Int} (h : Got len (ev Φ e σ) fun d => ∃ v, d = .int v ∧ lo ≤ v ∧ v < hi) (h0 : 0 ≤ lo) (h1 : hi ≤ 1000) : Got len (evi Φ (.rng [e]) σ) fun items => ∃ v, items = rangeD 0 v ∧ lo ≤ v ∧ v < hi := by
  refine Got.eq ((got_evs h got_nil).bind (f := fun ds => M.opt (walkR ds)) fun ds ⟨d, r, hds, ⟨v, hd, v0, v1⟩, hr⟩ => ?_) (by rw [evi])
  subst hds hd hr
  refine .opt (a := rangeD 0 v) ?_ ⟨v, rfl, v0, v1⟩
  show (if -lim62 ≤ v ∧ v < lim62 ∧ v ≤ 16777216 then some (rangeD 0 v) else none) = _
  rw [if_pos (by unfold lim62; omega)]
theorem range_len (lo hi : Int) : (rangeD lo hi).length = (hi - lo).toNat := by
  unfold rangeD
  rw [List.length_map, List.length_range]
theorem got_for' {tg : Tg} {it : It} {b : List S} {tmp : List Nat} {P : List D → Prop} {Q : Flow' → Prop} (h1 : Got len (evi Φ it σ) P) (h2 : ∀ items, P items → Got len (loopF (fun σ' => exs Φ fuel b σ') tg tmp items σ) Q) : Got len (ex Φ fuel (.forr tg it b tmp) σ) Q :=
  Got.eq (h1.bind (f := fun items => loopF (fun σ' => exs Φ fuel b σ') tg tmp items σ) h2) (by rw [ex])
/-- xs[k] += v -/
theorem got_augix {i : Nat} {k v : E} {l : List D} {K V : Int → Prop} (hs : slot σ i = .ml l) (hk : Got len (ev Φ k σ) fun d => ∃ n, d = .int n ∧ K n) (hv : Got len (ev Φ v σ) fun d => ∃ b, d = .int b ∧ V b) (hj : ∀ n, K n → ∃ j a, ixN l.length n = some j ∧ l[j]? = some (.int a)) :
    Got len (exs Φ fuel [.augix i .add k v] σ) fun f => ∃ n j a b, K n ∧ V b ∧ ixN l.length n = some j ∧ l[j]? = some (.int a) ∧ f = .next (σ.set i (.ml (l.set j (.int (a + b))))) := fun g hg => by
  obtain ⟨d, g1, e1, ⟨n, rfl, kn⟩, hg1⟩ := hk g hg
  obtain ⟨d2, g2, e2, ⟨b, rfl, vb⟩, hg2⟩ := hv g1 hg1
  obtain ⟨j, a, hj1, hj2⟩ := hj n kn
  refine ⟨_, g2, ?_, ⟨n, j, a, b, kn, vb, hj1, hj2, rfl⟩, hg2⟩
  have h0 : mlS σ i g = some (.ok l, g) := by
    unfold mlS
    rw [hs]
    rfl
  have h1 : getS σ i (.int n) g1 = some (.ok (.int a), g1) := by
    unfold getS
    rw [hs]
    show M.opt (atI l n) g1 = _
    unfold atI
    rw [hj1]
    show M.opt (l[j]?) g1 = _
    rw [hj2]
    rfl
  have h2 : ex Φ fuel (.augix i .add k v) σ g = some (.ok (.next (σ.set i (.ml (l.set j (.int (a + b)))))), g2) := by
    rw [ex, bind_ok h0, bind_ok e1, bind_ok h1, bind_ok e2, bind_ok (a := .int (a + b)) (g1 := g2) rfl]
    unfold setS
    rw [hs]
    show (match ixN l.length n with
      | some j => M.pure (Flow'.next (σ.set i (.ml (l.set j (D.int (a + b))))))
      | none => M.fail) g2 = _
    rw [hj1]
    rfl
  rw [exs_cons h2]
  exact exs_nil
end
end MC
namespace MC
open PySem PySem.Spec L2 PyProof.Rows
/-! ### _law_result keeps what is said of it -/
def resN : List Str := ["call", "raised", "result", "e", "some", "names", "name"]
def xall : List Str := xnm.map (·.1)
def xpr (k c : Str) : Str × Str × List Str := (k, c, [c])
def resT : List S := [
  .ife (.op .isN (.var 1) (.cst .non)) [.ret (.tup [.cst (.str "returns"), .var 2])] [],
  .newx 4 1 [xpr "protocol" "InvalidProtocol", xpr "number" "InvalidNumber"],
  .updx 4 1 [xpr "configuration" "InvalidConfiguration", xpr "step" "InvalidStep"],
  .updx 4 1 [xpr "trace" "InvalidTrace", xpr "pattern" "InvalidPattern"],
  .updx 4 1 [xpr "change" "InvalidChange", xpr "log" "InvalidLog"],
  .updx 4 1 [xpr "order" "InvalidOrder", xpr "rule" "InvalidRule"],
  .updx 4 1 [xpr "index" "InvalidIndex", xpr "text" "InvalidText"],
  .updx 4 1 [xpr "compare" "NotComparable", xpr "large" "TooLarge"],
  .updx 4 1 [xpr "many" "TooMany", xpr "undo" "NothingToUndo"],
  .fz 4,
  .new 5 (.comp (.var 6) (.n 6) [6] (.e (.var 4)) [.idx (.var 4) (.var 6)]),
  .fz 5,
  .ret (.ife (.and [.op .eq (.prim .len [.var 5]) (.cst (.int 1)), .isx (.var 1) "ValueError" xall]) (.tup [.idx (.var 5) (.cst (.int 0))]) (.tup [.cst (.str "other error")]))]
def res1 : S := .asg (.t [.n 1, .n 2]) (.tup [.cst .non, .cst .non])
def resG (sc : Scope) : Gam := ⟨resN, sc, fun _ => true, 0, false⟩
def resB (T : Tab) (sc : Scope) : List Stmt → Bool
  | s1 :: .Try [.Assign [.Name x1 _] (.Call (.Name x2 _) [] [] _) _] [.ExceptHandler (some (.Name x3 _)) (some x4) [.Assign [.Name x5 _] (.Name x6 _) _] _] [] [] _ :: tail =>
    decide (x1 = "result") && (decide (x2 = "call") && (decide (x3 = "CacheError") && (decide (x4 = "e") && (decide (x5 = "raised") && (decide (x6 = "e") && (lcB sc "result" && (lcB sc "e" && (lcB sc "raised" && (glB sc "CacheError" && (lcB sc "call" && (chkS T (resG sc) res1 s1 && chkSs T (resG sc) resT tail)))))))))))
  | _ => false
theorem tail_ok (Φ : Nat → List D → M D) (fuel : Nat) (d : D) (g : G) : exs Φ fuel resT [.un, .imm .non, .imm d, .un, .un, .un, .un] g = some (.ok (.ret (.tup [.str "returns", d])), g) := by kernel_rfl
theorem tail_ex (Φ : Nat → List D → M D) (fuel : Nat) (g : G) {c n : Str} (h : xnm.lookup c = some n) : exs Φ fuel resT [.un, .imm (.exc c), .un, .un, .un, .un, .un] g = some (.ok (.ret (.tup [.str n])), g) := by
  have m := PySem.mem_of_lookup h
  unfold xnm at m
  simp only [List.mem_cons, List.not_mem_nil, or_false, Prod.mk.injEq] at m
  rcases m with ⟨rfl, rfl⟩ | ⟨rfl, rfl⟩ | ⟨rfl, rfl⟩ | ⟨rfl, rfl⟩ | ⟨rfl, rfl⟩ | ⟨rfl, rfl⟩ | ⟨rfl, rfl⟩ | ⟨rfl, rfl⟩ | ⟨rfl, rfl⟩ | ⟨rfl, rfl⟩ | ⟨rfl, rfl⟩ | ⟨rfl, rfl⟩ | ⟨rfl, rfl⟩ | ⟨rfl, rfl⟩ | ⟨rfl, rfl⟩ | ⟨rfl, rfl⟩ <;> kernel_rfl

theorem Takes.len {X : Cx} {W : WX} (tk : Takes X W) : Takes X (fun cls d σ H => σ.length = X.N.length → W cls d σ H) := fun u s' ⟨a, B, sI, pins, σ, H, cls, d, e, I, nb, up, sky, na, os, ag, w⟩ =>
  tk u s' ⟨a, B, sI, pins, σ, H, cls, d, e, I, nb, up, sky, na, os, ag, w I.len⟩
theorem PE.weak {X : Cx} {e : Expr} {t : TE} (h : PE X e t) : PE X e (fun σ H Q => ∃ Q' : VK, t σ H Q' ∧ ∀ v H', Q' v H' → Q v H') := ⟨fun pins s σ H Q I hw => by
  obtain ⟨Q', h1, h2⟩ := hw
  exact thn (h.run pins s σ H Q' I h1) fun u s' ⟨v, H', I', r, q⟩ => ⟨v, H', I', r, h2 _ _ q⟩⟩
section
variable {T : Tab} {C : Cn} {P : Program} {w : World} {mg : Str → Option Value} {base : Heap} {Φ : Nat → List D → M D}
theorem un_get {n j : Nat} {s : Sl} (h : (List.replicate n Sl.un)[j]? = some s) : s = .un := by
  rw [List.getElem?_replicate] at h
  split at h <;> cases h
  rfl
theorem Fm.blank {ρ : Rho} {g : G} {H : Hp} (so : Sto C.tb ρ g H) {n : Nat} {σV : L2.St} (hl : σV.length = n) : Fm C H ρ (List.replicate n Sl.un) σV ρ g H := by
  have no : ∀ (j : Nat) s ov a, (List.replicate n Sl.un)[j]? = some s → own s ov ≠ some a := fun j s ov a h z => by
    rw [un_get h, own_un] at z
    cases z
  refine ⟨by rw [List.length_replicate, hl], fun j s ov h1 h2 => by rw [un_get h1]; trivial, fun i j s t ov ow a h1 h2 h3 => (no i s ov a h1 h3).elim, fun i s ov a h1 h2 h3 => (no i s ov a h1 h3).elim, .refl _ _ _, List.prefix_refl _, fun b z => .inl z, so⟩
abbrev resZ (C : Cn) (sc : Scope) (cdv : Value) (X : Cx) (s : Shared) (H : Hp) : Cx := (cxOf C8.CX0 X.prog X.w X.K X.mg X.base resN "_law_result" sc (He.ga C.K "_law_result") cdv X.A X.stack s H C8.E0).nox
theorem res_ok (Md : Mdl T C P w mg base Φ 0) {a : Arguments} {bd : List Stmt} {sc : Scope} {fd : FuncData} (Fd : FunD C.K "_law_result" "_law_result" a bd sc [] [] (He.ga C.K "_law_result") fd) (hm : mg "_law_result" = some (.ref (He.ga C.K "_law_result")))
    (h : ∀ (kV doc pm : Value) (an : Option Addr) (cdv ct : Value) (us : List Value), us.length = (["call"] : List Str).length → bindArgs (PySem.W.fnOf "_law_result" "_law_result" a bd sc .none kV doc pm an cdv ct) ⟨us, []⟩ = pure ((["call"] : List Str).zip us))
    (S1 : scB resN ["call"] sc = true) (hb : resB T sc bd = true) (hce : mg "CacheError" = some (.ref (He.ga C.K "CacheError")))
    (hx : ∀ c n, xnm.lookup c = some n → PySem.W.exmOne C.K (.ref (He.ga C.K c)) (.ref (He.ga C.K "CacheError")) = some true) : ResOk C P w mg base := by
  have bi := binds_of Fd h
  have Sc := scope_by S1
  obtain ⟨oc, od, dV, kV, doc, pm, an, cdv, ct, osl, rfl, lk, hcd, hD, hK⟩ := Fd.ex
  unfold resB at hb
  split at hb
  rotate_left
  · cases hb
  rename_i s1 x1 px1 x2 px2 pc pa1 x3 px3 x4 x5 px5 x6 px6 pa2 ph pt tail
  simp only [Bool.and_eq_true, decide_eq_true_eq] at hb
  obtain ⟨rfl, rfl, rfl, rfl, rfl, rfl, l2, l3, l1, gc, l0, c1, ct'⟩ := hb
  refine ⟨⟨a, _, sc, dV, kV, doc, pm, cdv, ct, oc, an, od, osl, resN, hm, Fd.kp, lk, hcd, bi, Sc, rfl, .inl (lc_of l0), fun X q e1 e2 e3 e4 e5 hr => ?_⟩⟩
  intro f c' s H Q tl act hc hT
  obtain ⟨ρ, g, so, ht⟩ := hT
  subst e1 e2 e4 e5
  have Gd : GoodS T C Φ (resG sc) (resZ C sc cdv X s H) W0 :=
    { mdl := Md, K := e3, N := rfl, nd := Sc.nd, sc := rfl, calm := rfl, fn := fun _ _ => rfl, tk := takes0, rm := (hr.deeper _).mono (Nat.zero_le _), lam := fun z => absurd (show false = true from z) Bool.false_ne_true, kind := Sc.kind, own := PassesOwn.never }
  -- the first row
  unfold res1 chkS at c1
  split at c1
  · simp only [Bool.and_eq_true] at c1
    have z := c1.1.1
    unfold chkG at z
    cases z
  rotate_left
  · cases c1
  rename_i es kk px exx pos1
  simp only [Bool.and_eq_true] at c1
  obtain ⟨⟨⟨d1, d2⟩, d3⟩, d4⟩ := c1
  have P1 := ps_asg (X := resZ C sc cdv X s H) (pos := pos1) (sndE (H0 := H) (ρ0 := ρ) _ _ Gd.toGood d4).1 (sndG _ _ Gd.toGood d1) (by show swapsWith exx (some (.Tuple es kk px)) pos1.line (resZ C sc cdv X s H).env = pure false; exact swaps_of d2 _ _ _) (stores_of d3) rfl
  have P3 : PSs (resZ C sc cdv X s H) tail (fun E σ H => ∃ H0 ρ0, liftS C W0 H0 ρ0 (exs Φ 0 resT) E σ H) :=
    ⟨fun pins s1 σV H' D I h => by
      obtain ⟨H0, ρ0, h⟩ := h
      exact (sndSs (H0 := H0) (ρ0 := ρ0) (fuel := 0) resT tail Gd ct').run pins s1 σV H' D I h⟩
  have lk2 : sc.names.lookup ("result" : Str) = some .local := lc_of l2
  have lk3 : sc.names.lookup ("e" : Str) = some .local := lc_of l3
  have lk1 : sc.names.lookup ("raised" : Str) = some .local := lc_of l1
  have P2 := ps_try_hold (X := (resZ C sc cdv X s H)) (x := "CacheError") (n := "e") (c := .ref (He.ga C.K "CacheError")) (i := 3) (np := px3) (pos := pt) (pos' := ph)
    (body := [.Assign [.Name "result" px1] (.Call (.Name "call" px2) [] [] pc) pa1]) (suite := []) (b₀ := .Assign [.Name "raised" px5] (.Name "e" px6) pa2)
    (tb := fun W D σ H => ∃ Ech : XK, (∀ cls d σ' H', σ'.length = resN.length → Ech cls d H' → W cls d σ' H') ∧ σ[0]? = some (some (.ref f)) ∧ H c' = some (LamX.CodeO c' q) ∧ ∃ Q' : VK, tl Ech H Q' ∧ ∀ v H', Q' v H' → D.nx (σ.set 2 (some v)) H')
    (ts := fun D σ H => ∃ v, σ[3]? = some (some v) ∧ D.nx (σ.set 1 (some v)) H) rfl rfl rfl Sc.nd rfl lk3 ⟨gl_of gc, by decide, .inl hce⟩
    (fun W pn xe tk => ⟨fun pins s' σ H' D I h' => by
      obtain ⟨Ech, hW, h1, h2, Q', h3, h4⟩ := h'
      have hp := act _ pn xe Ech px2 pc (Takes.len tk) (fun cls d σ' H' z hl => hW cls d σ' H' hl z)
      have hq := pss_one (ps_set (pos := pa1) (pos' := px1) (i := 2) (x := "result") Sc.nd rfl (.inl lk2) (PE.weak hp) rfl (.inl rfl))
      exact hq.run pins s' σ H' D I ⟨Q', ⟨h1, h2, h3⟩, h4⟩⟩)
    (fun a pn => pss_one (ps_set (pos := pa2) (pos' := px5) (i := 1) (x := "raised") Sc.nd rfl (.inl lk1) (pe_var (pos := px6) (i := 3) rfl (.inl lk3)) rfl (.inl rfl)))
  refine ⟨_, pss_cons P1 (pss_cons P2 P3), ?_⟩
  have F0 : Fm C H ρ (List.replicate 7 Sl.un) (L2.start resN [.ref f]) ρ g H := Fm.blank so rfl
  refine ⟨List.replicate 7 Sl.un, ρ, g, F0, .ok (.tup [.non, .non]), g, rfl, fun ρ1 H1 F1 s1 v rv => ?_⟩
  obtain ⟨av, vs, rfl, hv, rvs⟩ := rv
  obtain ⟨v1, r1, rfl, e1, v2, r2, rfl, e2, rfl⟩ := rvs
  cases (show v1 = .non from e1)
  cases (show v2 = .non from e2)
  refine ⟨av, _, rfl, SqT.of hv, rfl, V.non, _, rfl, V.non, _, rfl, rfl, ?_⟩
  have hc1 : H1 c' = some (LamX.CodeO c' q) := by
    refine s1.ext.at_ c' _ hc (fun z => ?_) (fun z => z)
    obtain ⟨kvs, e⟩ := so.rok c' z
    rw [hc] at e
    cases e
  refine ⟨_, fun cls d σ' H' hl hE => ?_, rfl, hc1, _, ht ρ1 H1 s1 F1.sto, fun v H' hQ => ?_⟩
  · obtain ⟨c, n, ρe, ge, rfl, rfl, hn, soe, hQ⟩ := hE
    refine ⟨by show PySem.W.exmOne X.K _ _ = _; rw [e3]; exact hx c n hn, fun ae oe fs na hz hf => ?_⟩
    have gr : Grow H' (upd H' ae (heldO ae oe)) := Grow.upd na
    have so2 := soe.grow gr
    refine ⟨.ref ae, List.getElem?_set_self (by rw [hl]; decide), upd H' ae (heldO ae oe), ρe, ?_⟩
    have Fb := (Fm.blank (C := C) so2 (n := 7) (σV := σ'.set 3 none) (by rw [List.length_set]; exact hl)).set (i := 1) (d := .exc c) (v := .ref ae) ⟨ae, oe, _, fs, rfl, upd_same, hz, hf⟩
    have eσ : ((σ'.set 3 (some (V.ref ae))).set 1 (some (V.ref ae))).set 3 none = (σ'.set 3 none).set 1 (some (V.ref ae)) := by
      rw [List.set_comm _ _ (show (1 : Nat) ≠ 3 by decide), List.set_set]
    refine ⟨_, ρe, ge, by rw [eσ]; exact Fb, _, ge, tail_ex Φ 0 ge hn, fun v ρ' H2 st so' rv => hQ ρ' H2 v ((Stp.of _ gr).trans st) so' rv⟩
  · obtain ⟨d, ρe, ge, soe, rv, hQ⟩ := hQ
    have Fb := ((Fm.blank (C := C) soe (n := 7) (σV := L2.start resN [.ref f]) rfl).set (i := 1) (d := .non) (v := .non) rfl).set (i := 2) rv
    exact ⟨H', ρe, _, ρe, ge, Fb, _, ge, tail_ok Φ 0 d ge, fun v' ρ' H2 st so' rv' => hQ ρ' H2 v' st so' rv'⟩
end
end MC
namespace MC
open PySem PySem.Spec L2 PyProof.Rows
/-! ### what the head tells -/
theorem excB_ok {K : PySem.W.Frag} {D : Addr} (h : excB K D = true) : ExcC K D := by
  unfold excB at h
  simp only [Bool.and_eq_true, decide_eq_true_eq] at h
  obtain ⟨h1, h2, h3, h4, h5, h6, h7, h8⟩ := h
  exact ⟨He.eqO_ok h1, He.eqO_ok h2, h3, h4, He.eqO_ok h5, He.eqO_ok h6, h7, h8⟩
def glOk (T : Tab) (gl : List Str) : Bool := T.ex.all (gl.contains ·) && (!T.rs || (gl.contains "CacheError" && gl.contains "_law_result" && T.bl.contains "ValueError" && T.xs.all fun p => decide (p.1 = "ValueError") || gl.contains p.1)) && (T.rs || T.xs.isEmpty)
def CcT (T : Tab) (K : PySem.W.Frag) : Cn := ⟨K, fun _ => "", T.lm.map fun q => ((He.cT K (q, none)).2, (q ++ ".<locals>.") ++ "<lambda>")⟩
def T0 (T : Tab) : Tab := { T with rs := false }
theorem nodup_inj {α β : Type} {f : α → β} : ∀ {l : List α} {x y : α}, (l.map f).Nodup → x ∈ l → y ∈ l → f x = f y → x = y
  | a :: l, x, y, nd, hx, hy, e => by
    rw [List.map_cons] at nd
    obtain ⟨n1, n2⟩ := List.nodup_cons.mp nd
    rcases List.mem_cons.mp hx with q | q <;> rcases List.mem_cons.mp hy with p | p
    · rw [q, p]
    · exact absurd (List.mem_map.mpr ⟨y, p, by rw [← e, q]⟩) n1
    · exact absurd (List.mem_map.mpr ⟨x, q, by rw [e, p]⟩) n1
    · exact nodup_inj n2 q p e
section
variable {T : Tab} {gl : List Str} {fn : List He.DefD} {P : Program} {w : World} {K : PySem.W.Frag} {h : Heap} {mg : Str → Option Value} {base : Heap} {Φ : Nat → List D → M D}
abbrev Says (T : Tab) (gl : List Str) (fn : List He.DefD) (w : World) (h : Heap) (K : PySem.W.Frag) : Prop := He.SaysX (faOf T gl) fn [] (T.lm.map fun q => (q, none)) (moreB T) w h K
theorem glo_at (X : K.In h) (G : h.Ns mainGlobals mg) (c : Says T gl fn w h K) {x : Str} (hx : gl.contains x = true) : mg x = some (.ref (He.ga K x)) :=
  He.glo_ok X G (c.t.d.facts (f := .glo x) (by
    have : x ∈ gl := by simpa using hx
    simp [faOf, this]))
theorem mdl_0 (X : K.In h) (G : h.Ns mainGlobals mg) (c : Says T gl fn w h K) (ok : glOk T gl = true) (tb : ∀ q ∈ T.lm, LamX.TabB base mg (He.cT K (q, none)).1 (He.cT K (q, none)).2) : Mdl (T0 T) (CcT T K) P w mg base Φ 0 := by
  unfold glOk at ok
  simp only [Bool.and_eq_true, Bool.or_eq_true, Bool.not_eq_true'] at ok
  obtain ⟨⟨ok1, ok2⟩, ok3⟩ := ok
  have m := c.more
  unfold moreB at m
  simp only [Bool.and_eq_true, Bool.or_eq_true, Bool.not_eq_true'] at m
  obtain ⟨m1, m2⟩ := m
  have nd := of_decide_eq_true m2
  refine ⟨fun x hx => ?_, fun x i hx => ?_, fun f hf => absurd hf (Nat.not_lt_zero _), fun x hx => ?_, fun c' f hx => ?_, fun c' ds hx => ?_, fun q hq => ?_, fun z => absurd (show false = true from z) Bool.false_ne_true⟩
  · have hx : x ∈ T.bl := by simpa [T0] using hx
    exact He.free_ok X G (c.t.d.facts (f := .free x) (by simp [faOf, hx]))
  · have hx : (x, i) ∈ T.cn := by simpa [T0] using hx
    obtain ⟨t, e⟩ := He.int_ok X G (c.t.d.facts (f := .int x i) (by
      have : (He.Fa.int x i) ∈ T.cn.map (fun p => He.Fa.int p.1 p.2) := List.mem_map.mpr ⟨_, hx, rfl⟩
      simp [faOf, this, hx]))
    exact ⟨_, e, ⟨t, rfl⟩⟩
  · have hx : x ∈ T.ex := by simpa [T0] using hx
    obtain ⟨e1, e2, e3, e4⟩ := He.exc_ok (c.t.d.facts (f := .exc x) (by simp [faOf, hx]))
    exact ⟨_, _, _, _, PySem.F.excBase_ValueError, e1, glo_at X G c (List.all_eq_true.mp ok1 x hx), e2, e3, e4⟩
  · have hx : (c', f) ∈ T.fl := by simpa [T0] using hx
    have z1 : (He.Fa.cls c') ∈ faOf T gl := by
      unfold faOf
      simp only [List.mem_append]
      exact .inr (.inr (.inr (.inr (.inl (List.mem_map.mpr ⟨_, hx, rfl⟩)))))
    have z2 : (He.Fa.noat c' f) ∈ faOf T gl := by
      unfold faOf
      simp only [List.mem_append]
      exact .inr (.inr (.inr (.inr (.inr (List.mem_map.mpr ⟨_, hx, rfl⟩)))))
    exact ⟨He.cls_ok (c.t.d.facts z1), He.noat_ok (c.t.d.facts z2)⟩
  · have hx : (c', ds) ∈ T.xs := by simpa [T0] using hx
    have rs : T.rs = true := by
      rcases ok3 with z | z
      · exact z
      · rw [List.isEmpty_iff.mp z] at hx; cases hx
    rcases m1 with z | ⟨a1, a2⟩
    · rw [rs] at z; cases z
    rcases ok2 with z | ⟨⟨⟨b1, b2⟩, b3⟩, b4⟩
    · rw [rs] at z; cases z
    have k1 := List.all_eq_true.mp a2 _ hx
    have k2 := List.all_eq_true.mp b4 _ hx
    have key : ∀ d n, xnm.lookup d = some n → ExcC K (He.ga K d) ∧ PySem.W.kitOne K (.ref (He.ga K d)) (cvOf K c') = some (ds.contains d) := fun d n hd => by
      have hm := PySem.mem_of_lookup hd
      have q1 := List.all_eq_true.mp a1 _ hm
      exact ⟨excB_ok (Bool.and_eq_true_iff.mp q1).1, of_decide_eq_true (List.all_eq_true.mp k1 _ hm)⟩
    by_cases e : c' = "ValueError"
    · subst e
      have mb : mg "ValueError" = none := He.free_ok X G (c.t.d.facts (f := .free "ValueError") (by
        have : ("ValueError" : Str) ∈ T.bl := by simpa using b3
        simp [faOf, this]))
      exact ⟨.ty "ValueError", .type "ValueError", rfl, fun u z => z, .inr ⟨mb, by decide +kernel⟩, key⟩
    · have g1 : gl.contains c' = true := by
        rcases Bool.or_eq_true_iff.mp k2 with z | z
        · exact absurd (of_decide_eq_true z) e
        · exact z
      have ev : cvOf K c' = .ref (He.ga K c') := by unfold cvOf; rw [if_neg e]
      rw [ev] at key
      exact ⟨.ref (He.ga K c'), .ref (He.ga K c'), rfl, fun u z => z, .inl (glo_at X G c g1), key⟩
  · have hq : q ∈ T.lm := by simpa [T0] using hq
    refine ⟨tb q hq, List.mem_map.mpr ⟨q, hq, rfl⟩, fun p hp e => ?_⟩
    obtain ⟨q', hq', rfl⟩ := List.mem_map.mp hp
    rw [nodup_inj nd hq' hq e]
/-- .. with _law_result -/
theorem mdl_r (Md : Mdl (T0 T) (CcT T K) P w mg base Φ 0) (hr : T.rs = true → ResOk (CcT T K) P w mg base) : Mdl T (CcT T K) P w mg base Φ 0 :=
  ⟨Md.bl, Md.cn, fun f hf => absurd hf (Nat.not_lt_zero _), Md.ex, Md.fl, Md.xs, Md.lm, hr⟩
theorem res_of (X : K.In h) (G : h.Ns mainGlobals mg) (c : Says T gl fn w h K) (ok : glOk T gl = true) (rs : T.rs = true) (Md : Mdl (T0 T) (CcT T K) P w mg base Φ 0) {a : Arguments} {bd : List Stmt} {sc : Scope} {fd : FuncData} (Fd : FunD K "_law_result" "_law_result" a bd sc [] [] (He.ga K "_law_result") fd)
    (hb : ∀ (kV doc pm : Value) (an : Option Addr) (cdv ct : Value) (us : List Value), us.length = (["call"] : List Str).length → bindArgs (PySem.W.fnOf "_law_result" "_law_result" a bd sc .none kV doc pm an cdv ct) ⟨us, []⟩ = pure ((["call"] : List Str).zip us))
    (S1 : scB resN ["call"] sc = true) (hB : resB (T0 T) sc bd = true) : ResOk (CcT T K) P w mg base := by
  unfold glOk at ok
  simp only [Bool.and_eq_true, Bool.or_eq_true, Bool.not_eq_true'] at ok
  obtain ⟨⟨ok1, ok2⟩, ok3⟩ := ok
  have m := c.more
  unfold moreB at m
  simp only [Bool.and_eq_true, Bool.or_eq_true, Bool.not_eq_true'] at m
  obtain ⟨m1, m2⟩ := m
  rcases m1 with z | ⟨a1, a2⟩
  · rw [rs] at z; cases z
  rcases ok2 with z | ⟨⟨⟨b1, b2⟩, b3⟩, b4⟩
  · rw [rs] at z; cases z
  refine res_ok (C := CcT T K) Md Fd (glo_at X G c b2) hb S1 hB (glo_at X G c b1) fun d n hd => ?_
  have q1 := List.all_eq_true.mp a1 _ (PySem.mem_of_lookup hd)
  exact of_decide_eq_true (Bool.and_eq_true_iff.mp q1).2
/-- the end: what walk_ofTsE asks -/
theorem law_end {l : PySem.W.OpenLaw} {fa : Addr} {fd : FuncData} {n : Nat} (X : K.In h) (c : Says T gl fn w h K) (hb : ∀ (s : Shared) (u : Value), BindsTo s fd ⟨[u], []⟩ [("script", u)])
    (lt : ∀ ns : List Int, ns.length ≤ 63 → ∃ g', Φ n [.scr ns] [] = some (.ok (.bl true), g'))
    (hF : ∀ base : Heap, K.In base → base.Ns mainGlobals mg → (∀ q ∈ T.lm, LamX.TabB base mg (He.cT K (q, none)).1 (He.cT K (q, none)).2) → FnOk l.prog w K mg base (L2.CX l.prog w) (n + 1) fa fd ["script"] (spS (CcT T K) (Φ n))) :
    LamX.LawAtS l w K (L2.CX l.prog w) (n + 1) 63 "script" mg fa h := by
  have mp : ∀ {p : Addr × Addr}, p ∈ T.lm.map (fun q => He.cT K (q, none)) → ∃ q ∈ T.lm, p = He.cT K (q, none) := fun {p} hp => by
    obtain ⟨q, hq, e⟩ := List.mem_map.mp hp
    exact ⟨q, hq, e.symm⟩
  have mt : ∀ {q : Str}, q ∈ T.lm → ((q, none) : He.Defn) ∈ T.lm.map (fun q => ((q, none) : He.Defn)) := fun hq => List.mem_map.mpr ⟨_, hq, rfl⟩
  refine ⟨fd, T.lm.map fun q => He.cT K (q, none), spS (CcT T K) (Φ n), fun p hp => ?_, fun p hp => ?_, fun p hp => ?_, hb, fun H a ns hl _ hT hS => ?_, fun base h1 h2 h3 => hF base h1 h2 fun q hq => h3 _ (List.mem_map.mpr ⟨q, hq, rfl⟩)⟩
  · obtain ⟨q, hq, rfl⟩ := mp hp
    exact c.empty _ (mt hq)
  · obtain ⟨q, hq, rfl⟩ := mp hp
    exact c.out _ (mt hq)
  · obtain ⟨q, hq, rfl⟩ := mp hp
    exact PySem.W.codeHd_of_K X (c.hd _ (mt hq))
  · refine ⟨a, ns, rfl, hS, fun p hp => ?_, lt ns hl, fun _ => rfl⟩
    obtain ⟨q, hq, rfl⟩ := List.mem_map.mp hp
    exact LamX.TabS.nil (hT _ (List.mem_map.mpr ⟨q, hq, rfl⟩))
end
end MC
namespace GL
open PySem PySem.Spec L2 MC
def fuel : Nat := 16777216
/-- _law_is -/
def b2 : List S := [.ret (.and [.isi (.var 0) .bool, .op .eq (.var 0) (.var 1)])]
/-- is_between -/
def b3 : List S := [.ret (.and [.isi (.var 0) .int, .not (.isi (.var 0) .bool), .chn .le .le (.var 1) (.var 0) (.var 2)])]
/-- are_between -/
def b4 : List S := [.ret (.and [.isi (.var 0) .tuple, .prim .all [.comp (.call 3 [.var 3, .var 1, .var 2]) (.n 3) [3] (.e (.var 0)) []]])]
/-- is_ascending -/
def b5 : List S := [.ret (.prim .all [.comp (.op .lt (.var 1) (.var 2)) (.t [.n 1, .n 2]) [1, 2] (.zip (.var 0) (.slc (.var 0) (some (.cst (.int 1))) none)) []])]
/-- is_rule -/
def b6 : List S := [.ife (.or [.not (.isi (.var 1) .tuple), .op .ne (.prim .len [.var 1]) (.cst (.int 5)), .not (.call 4 [.slc (.var 1) none (some (.cst (.int 3))), .cst (.int 0), .op .sub (.var 0) (.cst (.int 1))])]) [.ret (.cst (.bl false))] [], .asg (.t [.n 2, .n 3, .n 4, .n 5, .n 6]) (.var 1), .ife (.or [.not (.call 4 [.var 5, .cst (.int 1), .op .sub (.var 0) (.cst (.int 1))]), .not (.call 5 [.var 5]), .op .mem (.var 4) (.var 5)]) [.ret (.cst (.bl false))] [], .ret (.and [.call 4 [.var 6, .cst (.int 0), .op .sub (.var 0) (.cst (.int 1))], .op .eq (.prim .len [.var 6]) (.var 0), .op .eq (.idx (.var 6) (.cst (.int 0))) (.cst (.int 0))])]
/-- is_protocol -/
def b7 : List S := [.ife (.or [.not (.isi (.var 0) .tuple), .op .ne (.prim .len [.var 0]) (.cst (.int 2)), .not (.call 3 [.idx (.var 0) (.cst (.int 0)), .cst (.int 2), .cst (.int 5)])]) [.ret (.cst (.bl false))] [], .asg (.t [.n 1, .n 2]) (.var 0), .ret (.and [.isi (.var 2) .tuple, .op .le (.prim .len [.var 2]) (.con "RULES" 8), .prim .all [.comp (.call 6 [.var 1, .var 3]) (.n 3) [3] (.e (.var 2)) []]])]
/-- others -/
def b8 : List S := [.ret (.op .add (.op .add (.slc (.var 0) none (some (.var 1))) (.tup [.op .sub (.idx (.var 0) (.var 1)) (.cst (.int 1))])) (.slc (.var 0) (some (.op .add (.var 1) (.cst (.int 1)))) none))]
/-- _law_rule -/
def b9 : List S := [.asg (.n 3) (.ife (.op .eq (.call 1 [.var 0, .var 1, .cst (.int 2)]) (.cst (.int 0))) (.call 1 [.var 0, .var 1, .var 2]) (.cst (.int 0))), .asg (.n 4) (.call 1 [.var 0, .var 1, .var 2]), .asg (.n 5) (.ife (.op .eq (.call 1 [.var 0, .var 1, .cst (.int 3)]) (.cst (.int 0))) (.call 1 [.var 0, .var 1, .var 2]) (.cst (.int 0))), .asg (.n 6) (.prim .tuple [.comp (.var 8) (.n 8) [8] (.rng [.cst (.int 1), .var 2]) [.and [.op .eq (.call 1 [.var 0, .var 1, .cst (.int 5)]) (.cst (.int 0)), .op .ne (.var 8) (.var 5)]]]), .new 7 (.lst [.cst (.int 0)]), .forr (.n 8) (.rng [.cst (.int 1), .var 2]) [.app 7 (.idx (.tup [.var 8, .cst (.int 0), .call 1 [.var 0, .var 1, .var 2]]) (.call 1 [.var 0, .var 1, .cst (.int 3)]))] [], .fz 7, .ret (.tup [.var 3, .var 4, .var 5, .var 6, .prim .tuple [.var 7]])]
/-- _law_protocol -/
def b10 : List S := [.asg (.n 4) (.op .add (.cst (.int 2)) (.call 1 [.var 0, .var 1, .op .sub (.var 2) (.cst (.int 1))])), .ret (.tup [.var 4, .prim .tuple [.comp (.call 9 [.var 0, .var 1, .var 4]) (.n 5) [5] (.rng [.call 1 [.var 0, .var 1, .op .add (.var 3) (.cst (.int 1))]]) []]])]
/-- first_of -/
def b11 : List S := [.ret (.op .add (.tup [.var 1]) (.op .mul (.tup [.cst (.int 0)]) (.op .sub (.idx (.var 0) (.cst (.int 0))) (.cst (.int 1)))))]
/-- is_possible -/
def b12 : List S := [.asg (.t [.n 3, .n 4, .n 5, .n 6, .n 7]) (.var 1), .ife (.op .eq (.idx (.var 0) (.var 3)) (.cst (.int 0))) [.ret (.cst (.bl false))] [], .asg (.n 2) (.call 8 [.var 0, .var 3]), .ret (.and [.or [.op .eq (.var 5) (.cst (.int 0)), .op .gt (.idx (.var 2) (.var 5)) (.cst (.int 0))], .not (.prim .any [.comp (.op .gt (.idx (.var 2) (.var 8)) (.cst (.int 0))) (.n 8) [8] (.e (.var 6)) []])])]
/-- performed -/
def b13 : List S := [.asg (.t [.n 3, .n 4, .n 5, .n 6, .n 7]) (.var 1), .new 2 (.op .mul (.lst [.cst (.int 0)]) (.prim .len [.var 0])), .forr (.t [.n 8, .n 9]) (.enum (.call 8 [.var 0, .var 3])) [.augix 2 .add (.idx (.var 7) (.var 8)) (.var 9)] [8, 9], .augix 2 .add (.var 4) (.cst (.int 1)), .fz 2, .ret (.prim .tuple [.var 2])]
/-- dropped -/
def b14 : List S := [.asg (.n 2) (.call 8 [.var 0, .var 1]), .ret (.op .add (.tup [.op .add (.idx (.var 2) (.cst (.int 0))) (.cst (.int 1))]) (.slc (.var 2) (some (.cst (.int 1))) none))]
/-- moves -/
def b15 : List S := [.new 2 (.lst []), .forr (.n 3) (.rng [.cst (.int 1), .idx (.var 0) (.cst (.int 0))]) [.ife (.op .gt (.idx (.var 1) (.var 3)) (.cst (.int 0))) [.app 2 (.tup [.tup [.cst (.str "drop"), .var 3], .call 14 [.var 1, .var 3]])] []] [3], .forr (.t [.n 4, .n 5]) (.enum (.idx (.var 0) (.cst (.int 1)))) [.ife (.call 12 [.var 1, .var 5]) [.app 2 (.tup [.tup [.cst (.str "rule"), .var 4], .call 13 [.var 1, .var 5]])] []] [4, 5], .fz 2, .ret (.var 2)]
/-- covers -/
def b16 : List S := [.ret (.prim .all [.comp (.op .ge (.var 2) (.var 3)) (.t [.n 2, .n 3]) [2, 3] (.zip (.slc (.var 0) (some (.cst (.int 1))) none) (.slc (.var 1) (some (.cst (.int 1))) none)) []])]
/-- is_in -/
def b17 : List S := [.ret (.prim .any [.comp (.call 16 [.var 0, .var 2]) (.n 2) [2] (.e (.var 1)) []])]
/-- _law_pattern -/
def b18 : List S := [.new 4 (.op .mul (.lst [.cst (.int 0)]) (.var 2)), .forr (.n 5) (.rng [.op .add (.cst (.int 1)) (.call 1 [.var 0, .var 1, .var 3])]) [.augix 4 .add (.op .add (.cst (.int 1)) (.call 1 [.var 0, .var 1, .op .sub (.var 2) (.cst (.int 1))])) (.cst (.int 1))] [], .fz 4, .ret (.prim .tuple [.var 4])]
/-- check_protocol -/
def b19 : List S := [.ife (.not (.call 7 [.var 0])) [.raise "InvalidProtocol"] []]
/-- is_count -/
def b20 : List S := [.ret (.and [.isi (.var 0) .int, .not (.isi (.var 0) .bool), .op .ge (.var 0) (.cst (.int 0))])]
/-- are_counts -/
def b21 : List S := [.ret (.and [.isi (.var 1) .tuple, .op .eq (.prim .len [.var 1]) (.idx (.var 0) (.cst (.int 0))), .prim .all [.comp (.call 20 [.var 2]) (.n 2) [2] (.e (.var 1)) []]])]
/-- is_configuration_of -/
def b22 : List S := [.ret (.and [.call 21 [.var 0, .var 1], .chn .le .le (.cst (.int 1)) (.prim .sum [.var 1]) (.con "CACHES" 8)])]
/-- is_configuration -/
def b23 : List S := [.exp (.call 19 [.var 0]), .ret (.call 22 [.var 0, .var 1])]
/-- is_pattern_of -/
def b24 : List S := [.ret (.and [.call 21 [.var 0, .var 1], .op .eq (.idx (.var 1) (.cst (.int 0))) (.cst (.int 0)), .chn .le .le (.cst (.int 1)) (.prim .sum [.var 1]) (.cst (.int 4))])]
/-- is_pattern -/
def b25 : List S := [.exp (.call 19 [.var 0]), .ret (.call 24 [.var 0, .var 1])]
/-- is_log_of -/
def b26 : List S := [.ife (.or [.not (.isi (.var 1) .tuple), .not (.chn .le .le (.cst (.int 1)) (.prim .len [.var 1]) (.cst (.int 6)))]) [.ret (.cst (.bl false))] [], .ife (.not (.prim .all [.comp (.call 22 [.var 0, .var 2]) (.n 2) [2] (.e (.var 1)) []])) [.ret (.cst (.bl false))] [], .ret (.prim .all [.comp (.op .eq (.prim .sum [.var 2]) (.prim .sum [.idx (.var 1) (.cst (.int 0))])) (.n 2) [2] (.e (.var 1)) []])]
/-- is_log -/
def b27 : List S := [.exp (.call 19 [.var 0]), .ret (.call 26 [.var 0, .var 1])]
/-- check_configuration -/
def b28 : List S := [.ife (.not (.call 22 [.var 0, .var 1])) [.raise "InvalidConfiguration"] []]
/-- check_number -/
def b29 : List S := [.ife (.not (.call 3 [.var 0, .cst (.int 1), .con "CACHES" 8])) [.raise "InvalidNumber"] []]
/-- initial -/
def b30 : List S := [.exp (.call 19 [.var 0]), .exp (.call 29 [.var 1]), .ret (.call 11 [.var 0, .var 1])]
/-- steps -/
def b31 : List S := [.exp (.call 19 [.var 0]), .exp (.call 28 [.var 0, .var 1]), .ret (.prim .tuple [.comp (.var 2) (.t [.n 2, .n 3]) [2, 3] (.e (.call 15 [.var 0, .var 1])) []])]
/-- is_step_shape -/
def b32 : List S := [.ret (.and [.isi (.var 0) .tuple, .op .eq (.prim .len [.var 0]) (.cst (.int 2)), .isi (.idx (.var 0) (.cst (.int 0))) .str, .call 20 [.idx (.var 0) (.cst (.int 1))]])]
/-- moved -/
def b33 : List S := [.ret (.ife (.call 32 [.var 2]) (.get (.prim .dictT [.call 15 [.var 0, .var 1]]) (.var 2)) (.cst .non))]
/-- after -/
def b34 : List S := [.exp (.call 19 [.var 0]), .exp (.call 28 [.var 0, .var 1]), .asg (.n 3) (.call 33 [.var 0, .var 1, .var 2]), .ife (.op .isN (.var 3) (.cst .non)) [.raise "InvalidStep"] [], .ret (.var 3)]
/-- check_pattern -/
def b35 : List S := [.exp (.call 19 [.var 0]), .ife (.not (.call 24 [.var 0, .var 1])) [.raise "InvalidPattern"] []]
/-- way -/
def b36 : List S := [.ife (.not (.isi (.var 2) .tuple)) [.ret (.cst .non)] [], .new 3 (.lst [.call 11 [.var 0, .var 1]]), .forr (.n 4) (.e (.var 2)) [.asg (.n 5) (.call 33 [.var 0, .at_ 3 (.neg (.cst (.int 1))), .var 4]), .ife (.op .isN (.var 5) (.cst .non)) [.ret (.cst .non)] [], .app 3 (.var 5)] [4, 5], .fz 3, .ret (.var 3)]
/-- run -/
def b37 : List S := [.exp (.call 19 [.var 0]), .exp (.call 29 [.var 1]), .asg (.n 3) (.call 36 [.var 0, .var 1, .var 2]), .ife (.op .isN (.var 3) (.cst .non)) [.raise "InvalidTrace"] [], .ret (.prim .tuple [.var 3])]
/-- met -/
def b38 : List S := [.whil (.and [.op .lt (.var 1) (.prim .len [.var 0]), .op .eq (.idx (.var 0) (.var 1)) (.var 2)]) [.aug 1 .add (.cst (.int 1))], .ret (.var 1)]
/-- check_log -/
def b39 : List S := [.exp (.call 19 [.var 0]), .ife (.not (.call 26 [.var 0, .var 1])) [.raise "InvalidLog"] []]
/-- is_explanation -/
def b41 : List S := [.exp (.call 39 [.var 0, .var 1]), .asg (.n 3) (.call 36 [.var 0, .prim .sum [.idx (.var 1) (.cst (.int 0))], .var 2]), .ife (.or [.op .isN (.var 3) (.cst .non), .op .ne (.idx (.var 3) (.neg (.cst (.int 1)))) (.idx (.var 1) (.neg (.cst (.int 1))))]) [.ret (.cst (.bl false))] [], .asg (.n 4) (.cst (.int 0)), .forr (.n 5) (.e (.var 3)) [.asg (.n 4) (.call 38 [.var 1, .var 4, .var 5])] [5], .ret (.op .eq (.var 4) (.prim .len [.var 1]))]
/-- sources_of -/
def b42 : List S := [.asg (.t [.n 2, .n 3, .n 4, .n 5, .n 6]) (.var 0), .ret (.comp (.var 7) (.n 7) [7] (.rng [.cst (.int 1), .prim .len [.var 6]]) [.and [.op .eq (.idx (.var 6) (.var 7)) (.var 1), .op .nmem (.var 7) (.var 5)]])]
/-- least_before -/
def b50 : List S := [.asg (.t [.n 5, .n 6, .n 7, .n 8, .n 9]) (.var 0), .new 2 (.prim .list [.var 1]), .setix 2 (.var 6) (.ife (.op .gt (.var 6) (.cst (.int 0))) (.prim .max [.op .sub (.at_ 2 (.var 6)) (.cst (.int 1)), .cst (.int 0)]) (.cst (.int 0))), .new 3 (.lst []), .fz 2, .forr (.n 4) (.e (.call 49 [.var 0, .prim .tuple [.var 2]])) [.new 10 (.prim .list [.var 4]), .ife (.op .gt (.var 7) (.cst (.int 0))) [.setix 10 (.var 7) (.prim .max [.at_ 10 (.var 7), .cst (.int 1)])] [], .ife (.op .gt (.var 5) (.cst (.int 0))) [.augix 10 .add (.var 5) (.cst (.int 1))] [], .fz 10, .app 3 (.prim .tuple [.var 10])] [4, 10], .fz 3, .ret (.var 3)]
/-- dangers -/
def b51 : List S := [.par2 2 3 false true (.lst [.var 1]) (.lst [.var 1]), .whilL 3 [.pop 3 4, .ife (.op .mem (.var 4) (.var 2)) [.forr (.n 5) (.e (.idx (.var 0) (.cst (.int 1)))) [.forr (.n 6) (.e (.call 50 [.var 5, .var 4])) [.ife (.not (.call 17 [.var 6, .var 2])) [.asg (.n 2) (.op .add (.comp (.var 7) (.n 7) [7] (.e (.var 2)) [.not (.call 16 [.var 7, .var 6])]) (.lst [.var 6])), .app 3 (.var 6)] []] [6]] [5, 6]] [], .clr [4, 5, 6]], .ret (.prim .tuple [.prim .sorted [.var 2]])]
/-- is_occurring -/
def b52 : List S := [.ret (.op .eq (.call 51 [.var 0, .var 1]) (.tup [.op .mul (.tup [.cst (.int 0)]) (.idx (.var 0) (.cst (.int 0)))]))]
/-- can_occur -/
def b53 : List S := [.exp (.call 35 [.var 0, .var 1]), .ret (.call 52 [.var 0, .var 1])]
/-- least_caches -/
def b61 : List S := [.exp (.call 35 [.var 0, .var 1]), .ret (.ife (.call 52 [.var 0, .var 1]) (.idx (.call 60 [.var 0, .var 1]) (.cst (.int 0))) (.cst .non))]
/-- shortest_trace -/
def b62 : List S := [.exp (.call 35 [.var 0, .var 1]), .ret (.ife (.call 52 [.var 0, .var 1]) (.call 60 [.var 0, .var 1]) (.cst .non))]
/-- is_trace_to -/
def b63 : List S := [.exp (.call 35 [.var 0, .var 1]), .ife (.or [.not (.isi (.var 2) .tuple), .op .ne (.prim .len [.var 2]) (.cst (.int 2)), .not (.call 3 [.idx (.var 2) (.cst (.int 0)), .cst (.int 1), .con "CACHES" 8])]) [.ret (.cst (.bl false))] [], .asg (.n 3) (.call 36 [.var 0, .idx (.var 2) (.cst (.int 0)), .idx (.var 2) (.cst (.int 1))]), .ret (.and [.op .notN (.var 3) (.cst .non), .call 16 [.idx (.var 3) (.neg (.cst (.int 1))), .var 1]])]
/-- closed_family -/
def b64 : List S := [.exp (.call 35 [.var 0, .var 1]), .asg (.n 2) (.call 51 [.var 0, .var 1]), .ret (.ife (.op .eq (.var 2) (.tup [.op .mul (.tup [.cst (.int 0)]) (.idx (.var 0) (.cst (.int 0)))])) (.cst .non) (.var 2))]
/-- is_family -/
def b65 : List S := [.ife (.or [.not (.isi (.var 1) .tuple), .op .eq (.var 1) (.tup []), .not (.prim .all [.comp (.call 21 [.var 0, .var 2]) (.n 2) [2] (.e (.var 1)) []])]) [.ret (.cst (.bl false))] [], .ife (.or [.not (.prim .all [.comp (.op .eq (.idx (.var 2) (.cst (.int 0))) (.cst (.int 0))) (.n 2) [2] (.e (.var 1)) []]), .not (.call 5 [.var 1])]) [.ret (.cst (.bl false))] [], .ret (.not (.prim .any [.comp (.call 17 [.var 2, .comp (.var 3) (.n 3) [3] (.e (.var 1)) [.op .ne (.var 3) (.var 2)]]) (.n 2) [2] (.e (.var 1)) []]))]
/-- is_closed -/
def b66 : List S := [.forr (.n 2) (.e (.idx (.var 0) (.cst (.int 1)))) [.forr (.n 3) (.e (.var 1)) [.ife (.not (.prim .all [.comp (.call 17 [.var 4, .var 1]) (.n 4) [4] (.e (.call 50 [.var 2, .var 3])) []])) [.ret (.cst (.bl false))] []] [3]] [2, 3], .ret (.cst (.bl true))]
/-- is_closed_family -/
def b67 : List S := [.exp (.call 35 [.var 0, .var 1]), .ife (.or [.not (.call 65 [.var 0, .var 2]), .not (.call 17 [.var 1, .var 2]), .call 17 [.op .mul (.tup [.cst (.int 0)]) (.idx (.var 0) (.cst (.int 0))), .var 2]]) [.ret (.cst (.bl false))] [], .ret (.call 66 [.var 0, .var 2])]
/-- dangerous -/
def b68 : List S := [.exp (.call 35 [.var 0, .var 1]), .ret (.call 51 [.var 0, .var 1])]
/-- is_dangerous -/
def b69 : List S := [.exp (.call 35 [.var 0, .var 1]), .exp (.call 28 [.var 0, .var 2]), .ret (.call 17 [.var 2, .call 51 [.var 0, .var 1]])]
/-- pattern_of -/
def b70 : List S := [.ret (.prim .tuple [.comp (.prim .len [.comp (.var 3) (.n 3) [3] (.e (.var 1)) [.and [.op .eq (.var 3) (.var 2), .op .gt (.var 2) (.cst (.int 0))]]]) (.n 2) [2] (.rng [.var 0]) []])]
/-- pairs -/
def b71 : List S := [.par2 2 3 false true (.idx (.var 0) (.cst (.int 0))) (.lst []), .forr (.n 1) (.rng [.cst (.int 1), .var 2]) [.ext 3 (.comp (.tup [.var 1, .var 4]) (.n 4) [4] (.rng [.var 1, .var 2]) [.call 52 [.var 0, .call 70 [.var 2, .tup [.var 1, .var 4]]]])] [1], .fz 3, .ret (.var 3)]
/-- occurring -/
def b72 : List S := [.ret (.comp (.var 1) (.n 1) [1] (.rng [.cst (.int 1), .idx (.var 0) (.cst (.int 0))]) [.call 52 [.var 0, .call 70 [.idx (.var 0) (.cst (.int 0)), .tup [.var 1]]]])]
/-- together -/
def b73 : List S := [.exp (.call 19 [.var 0]), .ret (.prim .tuple [.call 71 [.var 0]])]
/-- single -/
def b74 : List S := [.exp (.call 19 [.var 0]), .asg (.n 1) (.call 71 [.var 0]), .ret (.prim .tuple [.comp (.var 2) (.n 2) [2] (.e (.call 72 [.var 0])) [.op .nmem (.tup [.var 2, .var 2]) (.var 1)]])]
/-- cutoff -/
def b75 : List S := [.exp (.call 19 [.var 0]), .asg (.n 1) (.op .add (.comp (.tup [.var 2]) (.n 2) [2] (.e (.call 72 [.var 0])) []) (.call 71 [.var 0])), .ret (.prim .max [.op .add (.lst [.cst (.int 1)]) (.comp (.idx (.call 60 [.var 0, .call 70 [.idx (.var 0) (.cst (.int 0)), .var 2]]) (.cst (.int 0))) (.n 2) [2] (.e (.var 1)) [])])]
/-- difference -/
def b76 : List S := [.exp (.call 19 [.var 0]), .exp (.call 19 [.var 1]), .ife (.op .ne (.idx (.var 0) (.cst (.int 0))) (.idx (.var 1) (.cst (.int 0)))) [.raise "NotComparable"] [], .par [2, 3] [.call 71 [.var 0], .call 71 [.var 1]], .ret (.prim .tuple [.prim .sorted [.comp (.var 4) (.n 4) [4] (.e (.op .add (.var 2) (.var 3))) [.op .ne (.op .mem (.var 4) (.var 2)) (.op .mem (.var 4) (.var 3))]]])]
/-- idle -/
def b77 : List S := [.asg (.n 1) (.call 72 [.var 0]), .ret (.comp (.var 2) (.n 2) [2] (.rng [.cst (.int 1), .idx (.var 0) (.cst (.int 0))]) [.op .nmem (.var 2) (.var 1)])]
/-- idle_states -/
def b78 : List S := [.exp (.call 19 [.var 0]), .ret (.prim .tuple [.call 77 [.var 0]])]
/-- is_dead -/
def b79 : List S := [.asg (.n 2) (.call 70 [.idx (.var 0) (.cst (.int 0)), .tup [.idx (.var 1) (.cst (.int 0)), .idx (.var 1) (.cst (.int 2))]]), .ret (.and [.op .gt (.prim .sum [.var 2]) (.cst (.int 0)), .not (.call 52 [.var 0, .var 2])])]
/-- dead -/
def b80 : List S := [.ret (.comp (.var 1) (.t [.n 1, .n 2]) [1, 2] (.enum (.idx (.var 0) (.cst (.int 1)))) [.call 79 [.var 0, .var 2]])]
/-- dead_rules -/
def b81 : List S := [.exp (.call 19 [.var 0]), .ret (.prim .tuple [.call 80 [.var 0]])]
/-- without -/
def b82 : List S := [.ret (.tup [.idx (.var 0) (.cst (.int 0)), .prim .tuple [.comp (.var 3) (.t [.n 2, .n 3]) [2, 3] (.enum (.idx (.var 0) (.cst (.int 1)))) [.op .nmem (.var 2) (.var 1)]]])]
/-- needless_rules -/
def b83 : List S := [.exp (.call 19 [.var 0]), .par2 2 3 false true (.tup [.call 72 [.var 0], .call 71 [.var 0]]) (.lst []), .forr (.n 1) (.rng [.prim .len [.idx (.var 0) (.cst (.int 1))]]) [.asg (.n 4) (.call 82 [.var 0, .tup [.var 1]]), .ife (.op .eq (.tup [.call 72 [.var 4], .call 71 [.var 4]]) (.var 2)) [.app 3 (.var 1)] []] [1, 4], .fz 3, .ret (.prim .tuple [.var 3])]
/-- all_changes -/
def b84 : List S := [.new 1 (.lst []), .forr (.t [.n 2, .n 3]) (.enum (.idx (.var 0) (.cst (.int 1)))) [.ext 1 (.comp (.tup [.var 2, .var 4]) (.n 4) [4] (.rng [.cst (.int 1), .idx (.var 0) (.cst (.int 0))]) [.op .ne (.idx (.idx (.var 3) (.cst (.int 4))) (.var 4)) (.cst (.int 0))])] [2, 3], .fz 1, .ret (.var 1)]
/-- is_change -/
def b86 : List S := [.ret (.and [.call 4 [.var 1, .cst (.int 0), .cst (.int 9)], .op .mem (.var 1) (.call 84 [.var 0])])]
/-- changed -/
def b87 : List S := [.exp (.call 19 [.var 0]), .asg (.n 2) (.and [.isi (.var 1) .tuple, .prim .all [.comp (.call 86 [.var 0, .var 3]) (.n 3) [3] (.e (.var 1)) []]]), .ife (.or [.not (.var 2), .not (.call 5 [.var 1])]) [.raise "InvalidChange"] [], .ret (.call 85 [.var 0, .var 1])]
/-- choices -/
def b88 : List S := [.asg (.n 2) (.lst [.tup [.tup [], .neg (.cst (.int 1))]]), .forr (.n 3) (.rng [.var 1]) [.new 4 (.lst []), .forr (.t [.n 5, .n 6]) (.e (.var 2)) [.ext 4 (.comp (.tup [.op .add (.var 5) (.tup [.idx (.var 0) (.var 7)]), .var 7]) (.n 7) [7] (.rng [.op .add (.var 6) (.cst (.int 1)), .prim .len [.var 0]]) [])] [5, 6], .fz 4, .asg (.n 2) (.var 4)] [3, 4, 5, 6], .ret (.comp (.var 5) (.t [.n 5, .n 6]) [5, 6] (.e (.var 2)) [])]
/-- fewest_changes -/
def b89 : List S := [.exp (.call 35 [.var 0, .var 1]), .asg (.n 2) (.call 84 [.var 0]), .ife (.call 52 [.call 85 [.var 0, .var 2], .var 1]) [.ret (.cst .non)] [], .forr (.n 3) (.rng [.cst (.int 3)]) [.forr (.n 4) (.e (.call 88 [.var 2, .var 3])) [.ife (.not (.call 52 [.call 85 [.var 0, .var 4], .var 1])) [.ret (.var 4)] []] [4]] [3, 4], .raise "TooLarge"]
/-- orders -/
def b91 : List S := [.asg (.n 1) (.lst [.tup [.cst (.int 0)]]), .forr (.n 2) (.rng [.op .sub (.var 0) (.cst (.int 1))]) [.new 3 (.lst []), .forr (.n 4) (.e (.var 1)) [.ext 3 (.comp (.op .add (.var 4) (.tup [.var 5])) (.n 5) [5] (.rng [.cst (.int 1), .var 0]) [.op .nmem (.var 5) (.var 4)])] [4], .fz 3, .asg (.n 1) (.var 3)] [2, 3, 4], .ret (.var 1)]
/-- renamed_rule -/
def b92 : List S := [.asg (.t [.n 3, .n 4, .n 5, .n 6, .n 7]) (.var 0), .new 2 (.op .mul (.lst [.cst (.int 0)]) (.prim .len [.var 7])), .forr (.t [.n 8, .n 9]) (.enum (.var 7)) [.setix 2 (.idx (.var 1) (.var 8)) (.idx (.var 1) (.var 9))] [8, 9], .fz 2, .ret (.tup [.idx (.var 1) (.var 3), .idx (.var 1) (.var 4), .idx (.var 1) (.var 5), .prim .tuple [.prim .sorted [.comp (.idx (.var 1) (.var 10)) (.n 10) [10] (.e (.var 6)) []]], .prim .tuple [.var 2]])]
/-- by_order -/
def b93 : List S := [.ret (.tup [.idx (.var 0) (.cst (.int 0)), .prim .tuple [.comp (.call 92 [.var 2, .var 1]) (.n 2) [2] (.e (.idx (.var 0) (.cst (.int 1)))) []]])]
/-- renamed -/
def b94 : List S := [.exp (.call 19 [.var 0]), .ife (.or [.not (.call 4 [.var 1, .cst (.int 0), .op .sub (.idx (.var 0) (.cst (.int 0))) (.cst (.int 1))]), .op .nmem (.var 1) (.call 91 [.idx (.var 0) (.cst (.int 0))])]) [.raise "InvalidOrder"] [], .ret (.call 93 [.var 0, .var 1])]
/-- least_form -/
def b96 : List S := [.exp (.call 19 [.var 0]), .ret (.call 95 [.var 0])]
/-- are_alike -/
def b97 : List S := [.exp (.call 19 [.var 0]), .exp (.call 19 [.var 1]), .ret (.op .eq (.call 95 [.var 0]) (.call 95 [.var 1]))]
/-- tidy -/
def b98 : List S := [.exp (.call 19 [.var 0]), .asg (.n 1) (.call 77 [.var 0]), .new 2 (.comp (.var 12) (.n 12) [12] (.rng [.idx (.var 0) (.cst (.int 0))]) [.op .nmem (.var 12) (.var 1)]), .fz 2, .asg (.n 2) (.ife (.op .gt (.prim .len [.var 2]) (.cst (.int 1))) (.var 2) (.lst [.cst (.int 0), .cst (.int 1)])), .par2 3 4 false true (.prim .dictK [.comp (.tup [.var 12, .var 13]) (.t [.n 13, .n 12]) [13, 12] (.enum (.var 2)) []]) (.lst []), .forr (.t [.n 5, .n 6, .n 7, .n 8, .n 9]) (.e (.idx (.call 82 [.var 0, .call 80 [.var 0]]) (.cst (.int 1)))) [.asg (.n 10) (.prim .tuple [.comp (.get3 (.var 3) (.idx (.var 9) (.var 12)) (.cst (.int 0))) (.n 12) [12] (.e (.var 2)) []]), .asg (.n 11) (.prim .tuple [.comp (.idx (.var 3) (.var 12)) (.n 12) [12] (.e (.var 8)) [.and [.op .mem (.var 12) (.var 3), .op .nmem (.var 12) (.var 1)]]]), .app 4 (.tup [.idx (.var 3) (.var 5), .idx (.var 3) (.var 6), .idx (.var 3) (.var 7), .var 11, .var 10])] [5, 6, 7, 8, 9, 10, 11], .fz 4, .ret (.tup [.prim .len [.var 2], .prim .tuple [.var 4]])]
/-- _law_moves -/
def b99 : List S := [.new 2 (.lst []), .forr (.n 3) (.rng [.cst (.int 1), .idx (.var 0) (.cst (.int 0))]) [.ife (.op .gt (.idx (.var 1) (.var 3)) (.cst (.int 0))) [.new 7 (.prim .list [.var 1]), .set2 7 (.var 3) (.cst (.int 0)) (.op .sub (.at_ 7 (.var 3)) (.cst (.int 1))) (.op .add (.at_ 7 (.cst (.int 0))) (.cst (.int 1))), .fz 7, .app 2 (.tup [.tup [.cst (.str "drop"), .var 3], .prim .tuple [.var 7]])] []] [3, 7], .forr (.t [.n 4, .t [.n 8, .n 9, .n 10, .n 11, .n 12]]) (.enum (.idx (.var 0) (.cst (.int 1)))) [.new 5 (.prim .list [.var 1]), .augix 5 .sub (.var 8) (.cst (.int 1)), .asg (.n 6) (.and [.op .ge (.at_ 5 (.var 8)) (.cst (.int 0)), .or [.op .eq (.var 10) (.cst (.int 0)), .op .gt (.at_ 5 (.var 10)) (.cst (.int 0))]]), .ife (.and [.var 6, .op .eq (.comp (.cst (.int 1)) (.n 3) [3] (.e (.var 11)) [.op .gt (.at_ 5 (.var 3)) (.cst (.int 0))]) (.lst [])]) [.new 7 (.op .mul (.lst [.cst (.int 0)]) (.idx (.var 0) (.cst (.int 0)))), .setix 7 (.var 9) (.cst (.int 1)), .fz 5, .forr (.t [.n 3, .n 13]) (.enum (.var 5)) [.augix 7 .add (.idx (.var 12) (.var 3)) (.var 13)] [3, 13], .fz 7, .app 2 (.tup [.tup [.cst (.str "rule"), .var 4], .prim .tuple [.var 7]])] []] [4, 8, 9, 10, 11, 12, 5, 6, 7, 3, 13], .fz 2, .ret (.var 2)]
def FGl_0 : List (Ph → List D → M D) := [fun _ => begunF, fun _ => drawF, fun Φ as => body Φ fuel b2 0 as, fun Φ as => body Φ fuel b3 0 as, fun Φ as => body Φ fuel b4 1 as, fun Φ as => body Φ fuel b5 2 as, fun Φ as => body Φ fuel b6 5 as, fun Φ as => body Φ fuel b7 3 as, fun Φ as => body Φ fuel b8 0 as, fun Φ as => body Φ fuel b9 6 as, fun Φ as => body Φ fuel b10 2 as, fun Φ as => body Φ fuel b11 0 as, fun Φ as => body Φ fuel b12 7 as, fun Φ as => body Φ fuel b13 8 as, fun Φ as => body Φ fuel b14 1 as, fun Φ as => body Φ fuel b15 4 as, fun Φ as => body Φ fuel b16 2 as, fun Φ as => body Φ fuel b17 1 as, fun Φ as => body Φ fuel b18 2 as, fun Φ as => body Φ fuel b19 0 as]
def FGl_1 : List (Ph → List D → M D) := [fun Φ as => body Φ fuel b20 0 as, fun Φ as => body Φ fuel b21 1 as, fun Φ as => body Φ fuel b22 0 as, fun Φ as => body Φ fuel b23 0 as, fun Φ as => body Φ fuel b24 0 as, fun Φ as => body Φ fuel b25 0 as, fun Φ as => body Φ fuel b26 1 as, fun Φ as => body Φ fuel b27 0 as, fun Φ as => body Φ fuel b28 0 as, fun Φ as => body Φ fuel b29 0 as, fun Φ as => body Φ fuel b30 0 as, fun Φ as => body Φ fuel b31 2 as, fun Φ as => body Φ fuel b32 0 as, fun Φ as => body Φ fuel b33 0 as, fun Φ as => body Φ fuel b34 1 as, fun Φ as => body Φ fuel b35 0 as, fun Φ as => body Φ fuel b36 3 as, fun Φ as => body Φ fuel b37 1 as, fun Φ as => body Φ fuel b38 0 as, fun Φ as => body Φ fuel b39 0 as]
def FGl_2 : List (Ph → List D → M D) := [fun _ _ => M.fail, fun Φ as => body Φ fuel b41 3 as, fun Φ as => body Φ fuel b42 6 as, fun _ _ => M.fail, fun _ _ => M.fail, fun _ _ => M.fail, fun _ _ => M.fail, fun _ _ => M.fail, fun _ _ => M.fail, fun _ _ => M.fail, fun Φ as => body Φ fuel b50 9 as, fun Φ as => body Φ fuel b51 6 as, fun Φ as => body Φ fuel b52 0 as, fun Φ as => body Φ fuel b53 0 as, fun _ _ => M.fail, fun _ _ => M.fail, fun _ _ => M.fail, fun _ _ => M.fail, fun _ _ => M.fail, fun _ _ => M.fail]
def FGl_3 : List (Ph → List D → M D) := [fun _ _ => M.fail, fun Φ as => body Φ fuel b61 0 as, fun Φ as => body Φ fuel b62 0 as, fun Φ as => body Φ fuel b63 1 as, fun Φ as => body Φ fuel b64 1 as, fun Φ as => body Φ fuel b65 2 as, fun Φ as => body Φ fuel b66 3 as, fun Φ as => body Φ fuel b67 0 as, fun Φ as => body Φ fuel b68 0 as, fun Φ as => body Φ fuel b69 0 as, fun Φ as => body Φ fuel b70 2 as, fun Φ as => body Φ fuel b71 4 as, fun Φ as => body Φ fuel b72 1 as, fun Φ as => body Φ fuel b73 0 as, fun Φ as => body Φ fuel b74 2 as, fun Φ as => body Φ fuel b75 2 as, fun Φ as => body Φ fuel b76 3 as, fun Φ as => body Φ fuel b77 2 as, fun Φ as => body Φ fuel b78 0 as, fun Φ as => body Φ fuel b79 1 as]
def FGl_4 : List (Ph → List D → M D) := [fun Φ as => body Φ fuel b80 2 as, fun Φ as => body Φ fuel b81 0 as, fun Φ as => body Φ fuel b82 2 as, fun Φ as => body Φ fuel b83 4 as, fun Φ as => body Φ fuel b84 4 as, fun _ _ => M.fail, fun Φ as => body Φ fuel b86 0 as, fun Φ as => body Φ fuel b87 2 as, fun Φ as => body Φ fuel b88 6 as, fun Φ as => body Φ fuel b89 3 as, fun _ _ => M.fail, fun Φ as => body Φ fuel b91 5 as, fun Φ as => body Φ fuel b92 9 as, fun Φ as => body Φ fuel b93 1 as, fun Φ as => body Φ fuel b94 0 as, fun _ _ => M.fail, fun Φ as => body Φ fuel b96 0 as, fun Φ as => body Φ fuel b97 0 as, fun Φ as => body Φ fuel b98 13 as, fun Φ as => body Φ fuel b99 12 as]
def FGl_5 : List (Ph → List D → M D) := [fun _ _ => M.fail, fun _ _ => M.fail, fun _ _ => M.fail, fun _ _ => M.fail, fun _ _ => M.fail, fun _ _ => M.fail, fun _ _ => M.fail, fun _ _ => M.fail, fun _ _ => M.fail, fun _ _ => M.fail, fun _ _ => M.fail, fun _ _ => M.fail, fun _ _ => M.fail, fun _ _ => M.fail, fun _ _ => M.fail, fun _ _ => M.fail, fun _ _ => M.fail, fun _ _ => M.fail, fun _ _ => M.fail, fun _ _ => M.fail]
def FGl_6 : List (Ph → List D → M D) := [fun _ _ => M.fail, fun _ _ => M.fail, fun _ _ => M.fail, fun _ _ => M.fail, fun _ _ => M.fail, fun _ _ => M.fail, fun _ _ => M.fail, fun _ _ => M.fail, fun _ _ => M.fail, fun _ _ => M.fail, fun _ _ => M.fail, fun _ _ => M.fail, fun _ _ => M.fail, fun _ _ => M.fail, fun _ _ => M.fail, fun _ _ => M.fail, fun _ _ => M.fail, fun _ _ => M.fail, fun _ _ => M.fail, fun _ _ => M.fail]
def FGl : List (Ph → List D → M D) := FGl_0 ++ FGl_1 ++ FGl_2 ++ FGl_3 ++ FGl_4 ++ FGl_5 ++ FGl_6
def FG (n : Nat) : Ph → List D → M D := FGl.getD n fun _ _ => M.fail
abbrev Φ : Ph := Phi FG
end GL
namespace GL
open PySem PySem.Spec L2 MC
def plain : D → Bool
  | .non => true
  | .bl _ => true
  | .int _ => true
  | .str _ => true
  | .tup _ => true
  | .lst _ => true
  | _ => false
theorem gd_plain {n : Nat} {d : D} (h : gd n d = true) : plain d = true := by
  cases d <;> first | rfl | (cases n <;> (unfold gd at h; cases h))
theorem gds_mem : ∀ {n : Nat} {l : List D} {d : D}, gds n l = true → d ∈ l → gd n d = true
  | n, x :: l, d, h, m => by
    unfold gds at h
    obtain ⟨h1, h2⟩ := Bool.and_eq_true_iff.mp h
    rcases List.mem_cons.mp m with rfl | m
    · exact h1
    · exact gds_mem h2 m
theorem gd_tup {n : Nat} {l : List D} (h : gd n (.tup l) = true) : ∃ k, n = k + 1 ∧ gds k l = true := by
  cases n with
  | zero => unfold gd at h; cases h
  | succ k => unfold gd at h; exact ⟨k, rfl, h⟩
def betw (lo hi : Int) : D → Bool
  | .int i => decide (lo ≤ i) && decide (i ≤ hi)
  | _ => false
theorem e3 {d : D} {lo hi : Int} {g : G} (h : plain d = true) : Φ 3 [d, .int lo, .int hi] g = some (.ok (.bl (betw lo hi d)), g) := by
  cases d with
  | int i =>
    show (M.bind (exs (upto FG 3) fuel b3 [.imm (.int i), .imm (.int lo), .imm (.int hi)]) retD) g = _
    unfold betw
    cases h1 : decide (lo ≤ i) <;> cases h2 : decide (i ≤ hi) <;> simp [b3, exs, ex, ev, evAnd, slotD, slot, isTy, truth, opD, asB, M.bind, M.pure, M.opt, retD, h1, h2]
  | _ => first | rfl | cases h
def areB (lo hi : Int) : D → Bool
  | .tup l => l.all (betw lo hi)
  | _ => false
theorem e4 {n : Nat} {d : D} {lo hi : Int} {g : G} (h : gd n d = true) : Φ 4 [d, .int lo, .int hi] g = some (.ok (.bl (areB lo hi d)), g) := by
  cases d with
  | tup l =>
    obtain ⟨k, rfl, h1⟩ := gd_tup h
    refine body_ret (k := 1) (exs_ret ?_)
    show ev (upto FG 4) (.prim .all [.comp (.call 3 [.var 3, .var 1, .var 2]) (.n 3) [3] (.e (.var 0)) []]) [.imm (.tup l), .imm (.int lo), .imm (.int hi), .un] g = _
    refine ev_all (items := l) (betw lo hi) rfl fun d hd => ⟨[.imm (.tup l), .imm (.int lo), .imm (.int hi), .imm d], rfl, ?_⟩
    refine ev_call (ds := [d, .int lo, .int hi]) rfl ?_
    rw [upto_lt (by decide)]
    exact e3 (gd_plain (gds_mem h1 hd))
  | _ => first | rfl | (have := gd_plain h; cases this)
/-- pairs ascend -/
def ascB : List D → Bool
  | .int a :: .int b :: l => decide (a < b) && ascB (.int b :: l)
  | _ => true
def ints_ (l : List D) : Prop := ∀ d ∈ l, ∃ i, d = .int i
theorem asc_zip : ∀ (l : List D), ints_ l → (zipD l (l.drop 1)).all (fun d => match d with
    | .tup [.int a, .int b] => decide (a < b)
    | _ => false) = ascB l
  | [], _ => rfl
  | [a], _ => by
    show (zipD [a] []).all _ = _
    cases a <;> rfl
  | a :: b :: l, h => by
    obtain ⟨i, rfl⟩ := h a List.mem_cons_self
    obtain ⟨j, rfl⟩ := h b (List.mem_cons_of_mem _ List.mem_cons_self)
    have ih := asc_zip (.int j :: l) fun d hd => h d (List.mem_cons_of_mem _ hd)
    show (decide (i < j) && (zipD (.int j :: l) l).all _) = _
    show _ = (decide (i < j) && ascB (.int j :: l))
    rw [← ih]
    rfl
theorem e5 {l : List D} {g : G} (h : ints_ l) : Φ 5 [.tup l] g = some (.ok (.bl (ascB l)), g) := by
  refine body_ret (k := 2) (exs_ret ?_)
  rw [← asc_zip l h]
  refine ev_all (items := zipD l (l.drop 1)) _ ?_ fun d hd => ?_
  · show M.opt (some (zipD l (cutL l (some ((1 : Nat) : Int)) none))) g = _
    rw [cut_from]
    rfl
  · obtain ⟨i, hi⟩ := List.mem_iff_getElem?.mp hd
    obtain ⟨a, b, ha, hb, rfl⟩ := zip_get _ _ _ _ hi
    obtain ⟨x, rfl⟩ := h a (List.mem_of_getElem? ha)
    obtain ⟨y, rfl⟩ := h b (List.mem_of_mem_drop (List.mem_of_getElem? hb))
    exact ⟨[.imm (.tup l), .imm (.int x), .imm (.int y)], rfl, rfl⟩
theorem at0 {α : Type} (d : α) (l : List α) : atI (d :: l) 0 = some d := by
  unfold atI ixN
  rw [if_pos (by omega), if_pos (by rw [List.length_cons]; omega)]
  rfl
/-! ### rules -/
def head0 : List D → Bool
  | d :: _ => eqD d (.int 0)
  | [] => false
def barsB (many : Int) (nd : D) : D → Bool
  | .tup lb => lb.all (betw 1 (many - 1)) && ascB lb && !(lb.any fun z => eqD z nd)
  | _ => false
def effB (many : Int) : D → Bool
  | .tup le => le.all (betw 0 (many - 1)) && decide ((le.length : Int) = many) && head0 le
  | _ => false
def ruleB (many : Int) : D → Bool
  | .tup [s, t, nd, b, e] => areB 0 (many - 1) (.tup [s, t, nd]) && barsB many nd b && effB many e
  | _ => false
theorem betw_int {lo hi : Int} {d : D} (h : betw lo hi d = true) : ∃ i, d = .int i := by
  cases d with
  | int i => exact ⟨i, rfl⟩
  | _ => cases h
theorem all_ints {lo hi : Int} {l : List D} (h : l.all (betw lo hi) = true) : ints_ l := fun d hd => betw_int (List.all_eq_true.mp h d hd)
theorem sh_int (i : Int) : (D.int i).sh = true := rfl
theorem eq_int (i j : Int) : eqD (.int i) (.int j) = decide (i = j) := by
  show (i == j) = _
  by_cases h : i = j
  · subst h; simp
  · simp [h]
theorem gd_sub {n : Nat} {l m : List D} (h : gds n l = true) (hs : ∀ d ∈ m, d ∈ l) : gds n m = true := by
  induction m with
  | nil => cases n <;> rfl
  | cons d m ih =>
    unfold gds
    rw [gds_mem h (hs d List.mem_cons_self), ih fun x hx => hs x (List.mem_cons_of_mem _ hx)]
    rfl
theorem gd_up {n : Nat} {l : List D} (h : gds n l = true) : gd (n + 1) (.tup l) = true := by
  unfold gd
  exact h
theorem e6 {n : Nat} {v : D} {many : Int} {g : G} (hn : n ≤ 60) (hm : 0 < many) (h : gd n v = true) : Φ 6 [.int many, v] g = some (.ok (.bl (ruleB many v)), g) := by
  cases v with
  | tup l =>
    obtain ⟨k, rfl, hk⟩ := gd_tup h
    match l, hk with
    | [], _ => rfl
    | [_], _ => rfl
    | [_, _], _ => rfl
    | [_, _, _], _ => rfl
    | [_, _, _, _], _ => rfl
    | a1 :: a2 :: a3 :: a4 :: a5 :: a6 :: r, hk =>
      have hc : ev (upto FG 6) (.or [.not (.isi (.var 1) .tuple), .op .ne (.prim .len [.var 1]) (.cst (.int 5)), .not (.call 4 [.slc (.var 1) none (some (.cst (.int 3))), .cst (.int 0), .op .sub (.var 0) (.cst (.int 1))])]) [.imm (.int many), .imm (.tup (a1 :: a2 :: a3 :: a4 :: a5 :: a6 :: r)), .un, .un, .un, .un, .un] g = some (.ok (.bl true), g) := by
        refine or_f rfl (or_t (op_b (x := .int ((a1 :: a2 :: a3 :: a4 :: a5 :: a6 :: r).length : Nat)) (y := .int 5) rfl rfl ?_))
        rw [op_ne rfl rfl, eq_int, decide_eq_false (by simp only [List.length_cons]; omega)]
        rfl
      refine body_ret (Φ := upto FG 6) (fuel := fuel) (b := b6) (k := 5) (as := [.int many, .tup (a1 :: a2 :: a3 :: a4 :: a5 :: a6 :: r)]) (exs_ifR hc ?_)
      exact exs_ret rfl
    | [s, t, nd, b, e], hk =>
      have gdm : ∀ d ∈ [s, t, nd, b, e], gd k d = true := fun d hd => gds_mem hk hd
      have gb : gd k b = true := gdm b (by simp)
      have ge : gd k e = true := gdm e (by simp)
      have gn : gd k nd = true := gdm nd (by simp)
      have h3 : gd (k + 1) (.tup [s, t, nd]) = true := gd_up (gd_sub hk fun d hd => by simp at hd ⊢; rcases hd with z | z | z <;> simp [z])
      have c1 : ev (upto FG 6) (.or [.not (.isi (.var 1) .tuple), .op .ne (.prim .len [.var 1]) (.cst (.int 5)), .not (.call 4 [.slc (.var 1) none (some (.cst (.int 3))), .cst (.int 0), .op .sub (.var 0) (.cst (.int 1))])]) [.imm (.int many), .imm (.tup [s, t, nd, b, e]), .un, .un, .un, .un, .un] g = some (.ok (.bl (!areB 0 (many - 1) (.tup [s, t, nd]))), g) := by
        refine or_f rfl (or_f rfl (or_1 (not_b (ev_call (ds := [.tup [s, t, nd], .int 0, .int (many - 1)]) rfl ?_))))
        rw [upto_lt (by decide)]
        exact e4 h3
      refine (body_ret (k := 5) (exs_ifB (b' := barsB many nd b && effB many e) c1 rfl fun hb => ?_)).trans ?_
      · have ha : areB 0 (many - 1) (.tup [s, t, nd]) = true := by simpa using hb
        rw [exs_asg (d := .tup [s, t, nd, b, e]) (σ' := [.imm (.int many), .imm (.tup [s, t, nd, b, e]), .imm s, .imm t, .imm nd, .imm b, .imm e]) rfl rfl]
        obtain ⟨ni, rfl⟩ := betw_int (List.all_eq_true.mp ha nd (by simp))
        have c2 : ev (upto FG 6) (.or [.not (.call 4 [.var 5, .cst (.int 1), .op .sub (.var 0) (.cst (.int 1))]), .not (.call 5 [.var 5]), .op .mem (.var 4) (.var 5)]) [.imm (.int many), .imm (.tup [s, t, .int ni, b, e]), .imm s, .imm t, .imm (.int ni), .imm b, .imm e] g = some (.ok (.bl (!barsB many (.int ni) b)), g) := by
          have q1 : ev (upto FG 6) (.not (.call 4 [.var 5, .cst (.int 1), .op .sub (.var 0) (.cst (.int 1))])) [.imm (.int many), .imm (.tup [s, t, .int ni, b, e]), .imm s, .imm t, .imm (.int ni), .imm b, .imm e] g = some (.ok (.bl (!areB 1 (many - 1) b)), g) := by
            refine not_b (ev_call (ds := [b, .int 1, .int (many - 1)]) rfl ?_)
            rw [upto_lt (by decide)]
            exact e4 gb
          cases hq : areB 1 (many - 1) b with
          | false =>
            rw [hq] at q1
            refine (or_t q1).trans ?_
            cases b with
            | tup lb =>
              have hq : lb.all (betw 1 (many - 1)) = false := hq
              show _ = some (R.ok (D.bl (!(lb.all (betw 1 (many - 1)) && ascB lb && !(lb.any fun z => eqD z (.int ni))))), g)
              rw [hq]
              rfl
            | _ => rfl
          | true =>
            rw [hq] at q1
            cases b with
            | tup lb =>
              have hq' : lb.all (betw 1 (many - 1)) = true := hq
              have hi := all_ints hq'
              have q2 : ev (upto FG 6) (.not (.call 5 [.var 5])) [.imm (.int many), .imm (.tup [s, t, .int ni, .tup lb, e]), .imm s, .imm t, .imm (.int ni), .imm (.tup lb), .imm e] g = some (.ok (.bl (!ascB lb)), g) := by
                refine not_b (ev_call (ds := [.tup lb]) rfl ?_)
                rw [upto_lt (by decide)]
                exact e5 hi
              have q3 : ev (upto FG 6) (.op .mem (.var 4) (.var 5)) [.imm (.int many), .imm (.tup [s, t, .int ni, .tup lb, e]), .imm s, .imm t, .imm (.int ni), .imm (.tup lb), .imm e] g = some (.ok (.bl (lb.any fun z => eqD z (.int ni))), g) := op_b rfl rfl (op_mem rfl (gd_ok gb (by omega)))
              refine (or_f q1 (or_b q2 fun _ => or_1 q3)).trans ?_
              show _ = some (R.ok (D.bl (!(lb.all (betw 1 (many - 1)) && ascB lb && !(lb.any fun z => eqD z (.int ni))))), g)
              rw [hq']
              cases ascB lb <;> cases (lb.any fun z => eqD z (.int ni)) <;> rfl
            | _ => cases hq
        refine (exs_ifB (b' := effB many e) c2 rfl fun _ => ?_).trans ?_
        · refine exs_ret ?_
          have q1 : ev (upto FG 6) (.call 4 [.var 6, .cst (.int 0), .op .sub (.var 0) (.cst (.int 1))]) [.imm (.int many), .imm (.tup [s, t, .int ni, b, e]), .imm s, .imm t, .imm (.int ni), .imm b, .imm e] g = some (.ok (.bl (areB 0 (many - 1) e)), g) := by
            refine ev_call (ds := [e, .int 0, .int (many - 1)]) rfl ?_
            rw [upto_lt (by decide)]
            exact e4 ge
          cases e with
          | tup le =>
            refine (and_b q1 (b' := decide ((le.length : Int) = many) && head0 le) fun _ => ?_).trans ?_
            · have q2 : ev (upto FG 6) (.op .eq (.prim .len [.var 6]) (.var 0)) [.imm (.int many), .imm (.tup [s, t, .int ni, b, .tup le]), .imm s, .imm t, .imm (.int ni), .imm b, .imm (.tup le)] g = some (.ok (.bl (decide ((le.length : Int) = many))), g) := by
                refine op_b (x := .int le.length) (y := .int many) rfl rfl ?_
                rw [op_eq rfl rfl, eq_int]
              refine and_b q2 fun hl => and_1 ?_
              have hl : (le.length : Int) = many := of_decide_eq_true hl
              cases le with
              | nil => simp at hl; omega
              | cons d le =>
                refine op_b (x := d) (y := .int 0) (by rw [ev, bind_ok (a := .tup (d :: le)) rfl, bind_ok (a := .int 0) rfl]; show M.opt (atI (d :: le) 0) g = _; rw [at0]; rfl) rfl ?_
                obtain ⟨j, rfl, hj⟩ := gd_tup ge
                rw [op_eq (gd_ok (gds_mem hj List.mem_cons_self) (by omega)) rfl]
                rfl
            · show _ = some (R.ok (D.bl (le.all (betw 0 (many - 1)) && decide ((le.length : Int) = many) && head0 le)), g)
              rw [Bool.and_assoc]
              rfl
          | _ => exact and_f q1
        · cases barsB many (.int ni) b <;> rfl
      · show _ = some (R.ok (D.bl (areB 0 (many - 1) (.tup [s, t, nd]) && barsB many nd b && effB many e)), g)
        cases areB 0 (many - 1) (.tup [s, t, nd]) <;> rfl
  | _ => first | rfl | (have := gd_plain h; cases this)
/-! ### protocols -/
def rulesB (many : Int) : D → Bool
  | .tup rs => decide (rs.length ≤ 8) && rs.all (ruleB many)
  | _ => false
def protB : D → Bool
  | .tup [.int m, r] => betw 2 5 (.int m) && rulesB m r
  | _ => false
theorem e7 {n : Nat} {v : D} {g : G} (hn : n ≤ 60) (h : gd n v = true) : Φ 7 [v] g = some (.ok (.bl (protB v)), g) := by
  cases v with
  | tup l =>
    obtain ⟨k, rfl, hk⟩ := gd_tup h
    match l, hk with
    | [], _ => rfl
    | [a], _ => cases a <;> rfl
    | a1 :: a2 :: a3 :: r, hk =>
      have hc : ev (upto FG 7) (.or [.not (.isi (.var 0) .tuple), .op .ne (.prim .len [.var 0]) (.cst (.int 2)), .not (.call 3 [.idx (.var 0) (.cst (.int 0)), .cst (.int 2), .cst (.int 5)])]) [.imm (.tup (a1 :: a2 :: a3 :: r)), .un, .un, .un] g = some (.ok (.bl true), g) := by
        refine or_f rfl (or_t (op_b (x := .int ((a1 :: a2 :: a3 :: r).length : Nat)) (y := .int 2) rfl rfl ?_))
        rw [op_ne rfl rfl, eq_int, decide_eq_false (by simp only [List.length_cons]; omega)]
        rfl
      refine (body_ret (Φ := upto FG 7) (fuel := fuel) (b := b7) (k := 3) (as := [.tup (a1 :: a2 :: a3 :: r)]) (d := .bl false) (g1 := g) (exs_ifR hc ?_)).trans ?_
      · exact exs_ret rfl
      · cases a1 <;> rfl
    | [m, r], hk =>
      have gm : gd k m = true := gds_mem hk (by simp)
      have gr : gd k r = true := gds_mem hk (by simp)
      have hc : ev (upto FG 7) (.or [.not (.isi (.var 0) .tuple), .op .ne (.prim .len [.var 0]) (.cst (.int 2)), .not (.call 3 [.idx (.var 0) (.cst (.int 0)), .cst (.int 2), .cst (.int 5)])]) [.imm (.tup [m, r]), .un, .un, .un] g = some (.ok (.bl (!betw 2 5 m)), g) := by
        refine or_f rfl (or_f rfl (or_1 (not_b (ev_call (ds := [m, .int 2, .int 5]) rfl ?_))))
        rw [upto_lt (by decide)]
        exact e3 (gd_plain gm)
      refine (body_ret (Φ := upto FG 7) (fuel := fuel) (b := b7) (k := 3) (as := [.tup [m, r]]) (exs_ifB (b' := match m with | .int i => rulesB i r | _ => false) hc rfl fun hb => ?_)).trans ?_
      · have hb : betw 2 5 m = true := by simpa using hb
        obtain ⟨i, rfl⟩ := betw_int hb
        have hi : 0 < i := by
          have := (Bool.and_eq_true_iff.mp hb).1
          have := of_decide_eq_true this
          omega
        rw [exs_asg (d := .tup [.int i, r]) (σ' := [.imm (.tup [.int i, r]), .imm (.int i), .imm r, .un]) rfl rfl]
        refine exs_ret ?_
        cases r with
        | tup rs =>
          obtain ⟨j, rfl, hj⟩ := gd_tup gr
          refine and_t rfl (and_b (b := decide (rs.length ≤ 8)) ?_ fun _ => and_1 ?_)
          · refine op_b (x := .int rs.length) (y := .int 8) rfl rfl ?_
            show some (D.bl (decide ((rs.length : Int) ≤ 8))) = _
            congr 2
            exact decide_eq_decide.mpr (by omega)
          · refine ev_all (items := rs) (ruleB i) rfl fun d hd => ⟨[.imm (.tup [.int i, .tup rs]), .imm (.int i), .imm (.tup rs), .imm d], rfl, ?_⟩
            refine ev_call (ds := [.int i, d]) rfl ?_
            rw [upto_lt (by decide)]
            exact e6 (n := j) (by omega) hi (gds_mem hj hd)
        | _ => first | rfl | (have := gd_plain gr; cases this)
      · cases m <;> first | rfl | (show _ = some (R.ok (D.bl (betw 2 5 _ && _)), g); cases betw 2 5 (D.int _) <;> rfl)
  | _ => first | rfl | (have := gd_plain h; cases this)
theorem e19 {n : Nat} {v : D} {g : G} (hn : n ≤ 60) (h : gd n v = true) (hp : protB v = true) : Φ 19 [v] g = some (.ok .non, g) := by
  have hc : ev (upto FG 19) (.not (.call 7 [.var 0])) [.imm v] g = some (.ok (.bl false), g) := by
    refine not_b (b := true) (ev_call (ds := [v]) rfl ?_)
    rw [upto_lt (by decide)]
    exact (e7 hn h).trans (by rw [hp])
  refine body_next (Φ := upto FG 19) (fuel := fuel) (b := b19) (k := 0) (as := [v]) (σ := [.imm v]) ?_
  show exs (upto FG 19) fuel b19 [.imm v] g = _
  unfold b19
  rw [exs_ifN hc]
  exact exs_nil
/-! ### counts -/
def countB : D → Bool
  | .int i => decide (0 ≤ i)
  | _ => false
theorem e20 {d : D} {g : G} (h : plain d = true) : Φ 20 [d] g = some (.ok (.bl (countB d)), g) := by
  cases d <;> first | rfl | cases h
def countsB (many : Int) : D → Bool
  | .tup l => decide ((l.length : Int) = many) && l.all countB
  | _ => false
theorem e21 {n : Nat} {v r : D} {many : Int} {g : G} (h : gd n v = true) : Φ 21 [.tup [.int many, r], v] g = some (.ok (.bl (countsB many v)), g) := by
  cases v with
  | tup l =>
    obtain ⟨k, rfl, hk⟩ := gd_tup h
    refine body_ret (Φ := upto FG 21) (fuel := fuel) (b := b21) (k := 1) (as := [.tup [.int many, r], .tup l]) (exs_ret (and_t rfl (and_b (b := decide ((l.length : Int) = many)) ?_ fun _ => and_1 ?_)))
    · refine op_b (x := .int l.length) (y := .int many) rfl rfl ?_
      rw [op_eq rfl rfl, eq_int]
    · refine ev_all (items := l) countB rfl fun d hd => ⟨[.imm (.tup [.int many, r]), .imm (.tup l), .imm d], rfl, ?_⟩
      refine ev_call (ds := [d]) rfl ?_
      rw [upto_lt (by decide)]
      exact e20 (gd_plain (gds_mem hk hd))
  | _ => first | rfl | (have := gd_plain h; cases this)
def sumD : D → Int
  | .tup l => match asInts l with
    | some ns => ns.sum
    | none => 0
  | _ => 0
theorem asInts_of : ∀ {l : List D}, ints_ l → ∃ ns, asInts l = some ns ∧ l = ns.map D.int
  | [], _ => ⟨[], rfl, rfl⟩
  | d :: l, h => by
    obtain ⟨i, rfl⟩ := h d List.mem_cons_self
    obtain ⟨ns, e, rfl⟩ := asInts_of fun x hx => h x (List.mem_cons_of_mem _ hx)
    refine ⟨i :: ns, ?_, rfl⟩
    show (asInts (ns.map D.int)).map (i :: ·) = _
    rw [e]
    rfl
theorem count_ints {l : List D} (h : l.all countB = true) : ints_ l := fun d hd => by
  have := List.all_eq_true.mp h d hd
  cases d with
  | int i => exact ⟨i, rfl⟩
  | _ => cases this
theorem counts_tup {many : Int} {v : D} (h : countsB many v = true) : ∃ ns : List Int, v = .tup (ns.map D.int) ∧ (ns.length : Int) = many ∧ sumD v = ns.sum ∧ prD .sum [v] = some (.int ns.sum) := by
  cases v with
  | tup l =>
    obtain ⟨h1, h2⟩ := Bool.and_eq_true_iff.mp h
    obtain ⟨ns, e, rfl⟩ := asInts_of (count_ints h2)
    refine ⟨ns, rfl, by have := of_decide_eq_true h1; simpa using this, ?_, ?_⟩
    · show (match asInts (ns.map D.int) with
        | some ns => ns.sum
        | none => 0) = _
      rw [e]
    · show (asInts (ns.map D.int)).map (fun ns => D.int ns.sum) = _
      rw [e]
      rfl
  | _ => cases h
def confB (many : Int) (v : D) : Bool := countsB many v && (decide (1 ≤ sumD v) && decide (sumD v ≤ 8))
theorem chn_b {Φ : Ph} {σ : List Sl} {g : G} {a b c : E} {x y z : Int} (h1 : ev Φ a σ g = some (.ok (.int x), g)) (h2 : ev Φ b σ g = some (.ok (.int y), g)) (h3 : ev Φ c σ g = some (.ok (.int z), g)) : ev Φ (.chn .le .le a b c) σ g = some (.ok (.bl (decide (x ≤ y) && decide (y ≤ z))), g) := by
  rw [ev, bind_ok h1, bind_ok h2]
  show (M.bind (M.pure (decide (x ≤ y))) _) g = _
  cases decide (x ≤ y) with
  | false => rfl
  | true =>
    show (M.bind (ev Φ c σ) _) g = _
    rw [bind_ok h3]
    rfl
theorem e22 {n : Nat} {v r : D} {many : Int} {g : G} (h : gd n v = true) : Φ 22 [.tup [.int many, r], v] g = some (.ok (.bl (confB many v)), g) := by
  refine body_ret (Φ := upto FG 22) (fuel := fuel) (b := b22) (k := 0) (as := [.tup [.int many, r], v]) (exs_ret (and_b (b := countsB many v) (b' := decide (1 ≤ sumD v) && decide (sumD v ≤ 8)) (ev_call (ds := [.tup [.int many, r], v]) rfl ?_) fun hc => and_1 ?_))
  · rw [upto_lt (by decide)]
    exact e21 h
  · obtain ⟨ns, rfl, _, e, hs⟩ := counts_tup hc
    rw [e]
    exact chn_b rfl (ev_prim rfl hs) rfl
theorem e2 {x y : Bool} {g : G} : Φ 2 [.bl x, .bl y] g = some (.ok (.bl (x == y)), g) := by cases x <;> cases y <;> rfl
/-- a protocol that is one, small enough -/
structure Prt (p r : D) (many : Int) : Prop where
  eq : p = .tup [.int many, r]
  ok : protB p = true
  gd : gd 10 p = true
theorem Prt.pos {p r : D} {many : Int} (h : Prt p r many) : 2 ≤ many ∧ many ≤ 5 := by
  have := h.ok
  rw [h.eq] at this
  have := (Bool.and_eq_true_iff.mp this).1
  have := Bool.and_eq_true_iff.mp (show (decide (2 ≤ many) && decide (many ≤ 5)) = true from this)
  exact ⟨of_decide_eq_true this.1, of_decide_eq_true this.2⟩
theorem e23 {n : Nat} {p v r : D} {many : Int} {g : G} (hp : Prt p r many) (h : gd n v = true) : Φ 23 [p, v] g = some (.ok (.bl (confB many v)), g) := by
  refine body_ret (Φ := upto FG 23) (fuel := fuel) (b := b23) (k := 0) (as := [p, v]) ?_
  unfold b23
  rw [exs_exp (d := .non) (g1 := g) (ev_call (ds := [p]) rfl (by rw [upto_lt (by decide)]; exact e19 (by omega) hp.gd hp.ok))]
  refine exs_ret (ev_call (ds := [p, v]) rfl ?_)
  rw [upto_lt (by decide), hp.eq]
  exact e22 h
def patB (many : Int) : D → Bool
  | .tup l => countsB many (.tup l) && (head0 l && (decide (1 ≤ sumD (.tup l)) && decide (sumD (.tup l) ≤ 4)))
  | _ => false
theorem e24 {n : Nat} {v r : D} {many : Int} {g : G} (hm : 0 < many) (h : gd n v = true) : Φ 24 [.tup [.int many, r], v] g = some (.ok (.bl (patB many v)), g) := by
  have q1 : ev (upto FG 24) (.call 21 [.var 0, .var 1]) [.imm (.tup [.int many, r]), .imm v] g = some (.ok (.bl (countsB many v)), g) := by
    refine ev_call (ds := [.tup [.int many, r], v]) rfl ?_
    rw [upto_lt (by decide)]
    exact e21 h
  cases v with
  | tup l =>
    refine body_ret (Φ := upto FG 24) (fuel := fuel) (b := b24) (k := 0) (as := [.tup [.int many, r], .tup l]) (exs_ret (and_b q1 fun hc => ?_))
    obtain ⟨ns, e0, hl, e, hs⟩ := counts_tup hc
    cases e0
    cases ns with
    | nil => simp at hl; omega
    | cons i ns =>
      refine and_b (b := head0 ((i :: ns).map D.int)) ?_ fun _ => and_1 ?_
      · refine op_b (x := .int i) (y := .int 0) (by rw [ev, bind_ok (a := .tup ((i :: ns).map D.int)) rfl, bind_ok (a := .int 0) rfl]; show M.opt (atI (D.int i :: ns.map D.int) 0) g = _; rw [at0]; rfl) rfl ?_
        rw [op_eq rfl rfl]
        rfl
      · rw [e]
        exact chn_b rfl (ev_prim rfl hs) rfl
  | _ => first | rfl | (have := gd_plain h; cases this)
theorem e25 {n : Nat} {p v r : D} {many : Int} {g : G} (hp : Prt p r many) (h : gd n v = true) : Φ 25 [p, v] g = some (.ok (.bl (patB many v)), g) := by
  refine body_ret (Φ := upto FG 25) (fuel := fuel) (b := b25) (k := 0) (as := [p, v]) ?_
  unfold b25
  rw [exs_exp (d := .non) (g1 := g) (ev_call (ds := [p]) rfl (by rw [upto_lt (by decide)]; exact e19 (by omega) hp.gd hp.ok))]
  refine exs_ret (ev_call (ds := [p, v]) rfl ?_)
  rw [upto_lt (by decide), hp.eq]
  exact e24 (by have := hp.pos; omega) h
def logB (many : Int) : D → Bool
  | .tup (x :: l) => decide ((x :: l).length ≤ 6) && ((x :: l).all (confB many) && (x :: l).all fun d => decide (sumD d = sumD x))
  | _ => false
theorem conf_counts {many : Int} {v : D} (h : confB many v = true) : countsB many v = true := (Bool.and_eq_true_iff.mp h).1
theorem e26 {n : Nat} {v r : D} {many : Int} {g : G} (h : gd n v = true) : Φ 26 [.tup [.int many, r], v] g = some (.ok (.bl (logB many v)), g) := by
  cases v with
  | tup l =>
    obtain ⟨k, rfl, hk⟩ := gd_tup h
    cases l with
    | nil => rfl
    | cons x l =>
      have c1 : ev (upto FG 26) (.or [.not (.isi (.var 1) .tuple), .not (.chn .le .le (.cst (.int 1)) (.prim .len [.var 1]) (.cst (.int 6)))]) [.imm (.tup [.int many, r]), .imm (.tup (x :: l)), .un] g = some (.ok (.bl (!decide ((x :: l).length ≤ 6))), g) := by
        refine or_f rfl (or_1 (not_b (b := decide ((x :: l).length ≤ 6)) ?_))
        have := chn_b (Φ := upto FG 26) (σ := [.imm (.tup [.int many, r]), .imm (.tup (x :: l)), .un]) (g := g) (a := .cst (.int 1)) (b := .prim .len [.var 1]) (c := .cst (.int 6)) (x := 1) (y := (x :: l).length) (z := 6) rfl rfl rfl
        rw [this, decide_eq_true (by rw [List.length_cons]; omega : (1 : Int) ≤ ((x :: l).length : Nat))]
        rw [Bool.true_and]
        congr 4
        exact decide_eq_decide.mpr (by omega)
      refine (body_ret (Φ := upto FG 26) (fuel := fuel) (b := b26) (k := 1) (as := [.tup [.int many, r], .tup (x :: l)]) (exs_ifB (b' := (x :: l).all (confB many) && (x :: l).all fun d => decide (sumD d = sumD x)) c1 rfl fun _ => ?_)).trans ?_
      · have c2 : ev (upto FG 26) (.not (.prim .all [.comp (.call 22 [.var 0, .var 2]) (.n 2) [2] (.e (.var 1)) []])) [.imm (.tup [.int many, r]), .imm (.tup (x :: l)), .un] g = some (.ok (.bl (!(x :: l).all (confB many))), g) := by
          refine not_b (ev_all (items := x :: l) (confB many) rfl fun d hd => ⟨[.imm (.tup [.int many, r]), .imm (.tup (x :: l)), .imm d], rfl, ?_⟩)
          refine ev_call (ds := [.tup [.int many, r], d]) rfl ?_
          rw [upto_lt (by decide)]
          exact e22 (gds_mem hk hd)
        refine (exs_ifB (b' := (x :: l).all fun d => decide (sumD d = sumD x)) c2 rfl fun hb => ?_).trans ?_
        · have hb : (x :: l).all (confB many) = true := by simpa using hb
          refine exs_ret (ev_all (items := x :: l) _ rfl fun d hd => ⟨[.imm (.tup [.int many, r]), .imm (.tup (x :: l)), .imm d], rfl, ?_⟩)
          obtain ⟨ns, rfl, _, e, hs⟩ := counts_tup (conf_counts (List.all_eq_true.mp hb d hd))
          obtain ⟨ms, e0, _, e', hs'⟩ := counts_tup (conf_counts (List.all_eq_true.mp hb x List.mem_cons_self))
          rw [e, e']
          refine op_b (x := .int ns.sum) (y := .int ms.sum) (ev_prim rfl hs) (ev_prim (d := x) (by rw [ev, bind_ok (a := .tup (x :: l)) rfl, bind_ok (a := .int 0) rfl]; show M.opt (atI (x :: l) 0) g = _; rw [at0]; rfl) hs') ?_
          rw [op_eq rfl rfl, eq_int]
        · cases (x :: l).all (confB many) <;> rfl
      · show _ = some (R.ok (D.bl (decide ((x :: l).length ≤ 6) && _)), g)
        cases decide ((x :: l).length ≤ 6) <;> rfl
  | _ => first | rfl | (have := gd_plain h; cases this)
theorem e27 {n : Nat} {p v r : D} {many : Int} {g : G} (hp : Prt p r many) (h : gd n v = true) : Φ 27 [p, v] g = some (.ok (.bl (logB many v)), g) := by
  refine body_ret (Φ := upto FG 27) (fuel := fuel) (b := b27) (k := 0) (as := [p, v]) ?_
  unfold b27
  rw [exs_exp (d := .non) (g1 := g) (ev_call (ds := [p]) rfl (by rw [upto_lt (by decide)]; exact e19 (by omega) hp.gd hp.ok))]
  refine exs_ret (ev_call (ds := [p, v]) rfl ?_)
  rw [upto_lt (by decide), hp.eq]
  exact e26 h
end GL
namespace GL
open PySem PySem.Spec L2 MC
structure Rule (many : Int) (s t nd : Int) (lb le : List Int) : Prop where
  hs : 0 ≤ s ∧ s < many
  ht : 0 ≤ t ∧ t < many
  hnd : 0 ≤ nd ∧ nd < many
  hlb : ∀ x ∈ lb, 1 ≤ x ∧ x < many
  asc : lb.Pairwise (· < ·)
  no : nd ∉ lb
  hle : ∀ x ∈ le, 0 ≤ x ∧ x < many
  len : (le.length : Int) = many
  hd : ∃ r, le = 0 :: r
def ruleD (s t nd : Int) (lb le : List Int) : D := .tup [.int s, .int t, .int nd, .tup (lb.map D.int), .tup (le.map D.int)]
theorem range_asc (lo hi : Int) : ∀ d ∈ rangeD lo hi, ∃ x, d = .int x ∧ lo ≤ x ∧ x < hi := fun d hd => by
  unfold rangeD at hd
  obtain ⟨i, hi, rfl⟩ := List.mem_map.mp hd
  exact ⟨_, rfl, by omega, by have := List.mem_range.mp hi; omega⟩
theorem sub_ints {lo hi : Int} {ks : List D} (h : ks.Sublist (rangeD lo hi)) : ∃ lb : List Int, ks = lb.map D.int ∧ lb.Pairwise (· < ·) ∧ ∀ x ∈ lb, lo ≤ x ∧ x < hi := by
  have e : rangeD lo hi = ((List.range (hi - lo).toNat).map fun i => lo + ((i : Nat) : Int)).map D.int := by
    unfold rangeD
    rw [List.map_map]
    rfl
  rw [e] at h
  obtain ⟨lb, h1, rfl⟩ := List.sublist_map_iff.mp h
  refine ⟨lb, rfl, ?_, fun x hx => ?_⟩
  · refine List.Pairwise.sublist h1 ?_
    rw [List.pairwise_map]
    exact List.pairwise_lt_range.imp fun h => by omega
  · obtain ⟨i, hi, rfl⟩ := List.mem_map.mp (h1.subset hx)
    have := List.mem_range.mp hi
    omega
section
variable {ns : List Int} (hl : ns.length ≤ 63)
include hl
theorem dr {n : Nat} (hn : 1 < n) {m : Int} (m0 : 0 < m) (m1 : m < 1000) : Got ns.length (upto FG n 1 [.scr ns, .obj 0, .int m]) fun d => ∃ v, d = .int v ∧ 0 ≤ v ∧ v < m := by
  rw [upto_lt hn]
  exact got_draw hl m0 (by omega)
/-- draw(..) == 0 -/
theorem dr0 {n : Nat} (hn : 1 < n) {m : Int} {σ : List Sl} {es : List E} (he : ∀ g, evs (upto FG n) es σ g = some (.ok [.scr ns, .obj 0, .int m], g)) (m0 : 0 < m) (m1 : m < 1000) : Got ns.length (ev (upto FG n) (.op .eq (.call 1 es) (.cst (.int 0))) σ) fun d => ∃ t, d = .bl t := by
  refine got_op (got_call he (dr hl hn m0 m1)) got_cst fun x y ⟨v, hx, _⟩ hy => ?_
  subst hx hy
  exact ⟨_, op_eq rfl rfl, _, rfl⟩
theorem e9 {many : Int} (h2 : 2 ≤ many) (h5 : many ≤ 5) : Got ns.length (Φ 9 [.scr ns, .obj 0, .int many]) fun d => ∃ s t nd lb le, d = ruleD s t nd lb le ∧ Rule many s t nd lb le := by
  refine got_body (b := b9) (k := 6) (as := [.scr ns, .obj 0, .int many]) ?_
  refine got_asg (P := fun d => ∃ v, d = .int v ∧ 0 ≤ v ∧ v < many) ?_ fun d ⟨s, hs, s0, s1⟩ => ?_
  · refine got_ife (P := fun _ => True) ((dr0 hl (by decide) (m := 2) (fun g => rfl) (by omega) (by omega)).imp fun d ⟨t, h⟩ => ⟨t, h, trivial⟩) (fun _ => got_call (fun g => rfl) (dr hl (by decide) (by omega) (by omega))) fun _ => got_cst.imp fun d hd => ⟨0, hd, by omega, by omega⟩
  subst hs
  refine ⟨[.imm (.scr ns), .imm (.obj 0), .imm (.int many), .imm (.int s), .un, .un, .un, .un, .un], rfl, ?_⟩
  refine got_asg (P := fun d => ∃ v, d = .int v ∧ 0 ≤ v ∧ v < many) (got_call (fun g => rfl) (dr hl (by decide) (by omega) (by omega))) fun d ⟨t, ht, t0, t1⟩ => ?_
  subst ht
  refine ⟨[.imm (.scr ns), .imm (.obj 0), .imm (.int many), .imm (.int s), .imm (.int t), .un, .un, .un, .un], rfl, ?_⟩
  refine got_asg (P := fun d => ∃ v, d = .int v ∧ 0 ≤ v ∧ v < many) ?_ fun d ⟨nd, hn, n0, n1⟩ => ?_
  · refine got_ife (P := fun _ => True) ((dr0 hl (by decide) (m := 3) (fun g => rfl) (by omega) (by omega)).imp fun d ⟨t, h⟩ => ⟨t, h, trivial⟩) (fun _ => got_call (fun g => rfl) (dr hl (by decide) (by omega) (by omega))) fun _ => got_cst.imp fun d hd => ⟨0, hd, by omega, by omega⟩
  subst hn
  refine ⟨[.imm (.scr ns), .imm (.obj 0), .imm (.int many), .imm (.int s), .imm (.int t), .imm (.int nd), .un, .un, .un], rfl, ?_⟩
  have hr : walkR [.int 1, .int many] = some (rangeD 1 many) := by
    show (if (-lim62 ≤ (1 : Int) ∧ (1 : Int) < lim62) ∧ -lim62 ≤ many ∧ many < lim62 ∧ many - 1 ≤ 16777216 then some (rangeD 1 many) else none) = _
    rw [if_pos (by unfold lim62; omega)]
  refine got_asg (P := fun d => ∃ lb : List Int, d = .tup (lb.map D.int) ∧ (∀ x ∈ lb, 1 ≤ x ∧ x < many) ∧ lb.Pairwise (· < ·) ∧ nd ∉ lb) ?_ fun d ⟨lb, hb, b0, b1, b2⟩ => ?_
  · have hand : ∀ x : Int, Got ns.length (ev (upto FG 9) (.and [.op .eq (.call 1 [.var 0, .var 1, .cst (.int 5)]) (.cst (.int 0)), .op .ne (.var 8) (.var 5)]) [.imm (.scr ns), .imm (.obj 0), .imm (.int many), .imm (.int s), .imm (.int t), .imm (.int nd), .un, .un, .imm (.int x)]) (fun d => ∃ b : Bool, d = .bl b ∧ (b = true → x ≠ nd)) := fun x => by
      refine Got.eq ((dr0 hl (n := 9) (by decide) (m := 5) (σ := [.imm (.scr ns), .imm (.obj 0), .imm (.int many), .imm (.int s), .imm (.int t), .imm (.int nd), .un, .un, .imm (.int x)]) (es := [.var 0, .var 1, .cst (.int 5)]) (fun g => rfl) (by omega) (by omega)).bind (f := fun y => M.bind (M.opt (truth y)) fun b => match b with
          | true => evAnd (upto FG 9) [.op .ne (.var 8) (.var 5)] [.imm (.scr ns), .imm (.obj 0), .imm (.int many), .imm (.int s), .imm (.int t), .imm (.int nd), .un, .un, .imm (.int x)]
          | false => M.pure y) fun d ⟨b, hb⟩ => ?_) (by rw [ev, evAnd]; rfl)
      subst hb
      cases b with
      | false => exact .pure ⟨false, rfl, fun z => by cases z⟩
      | true =>
        refine .of (a := .bl (!eqD (.int x) (.int nd))) (fun g => rfl) ⟨_, rfl, fun z => ?_⟩
        rw [eq_int] at z
        simpa using z
    have hcomp := got_compL (len := ns.length) (σ := clear [8] [.imm (.scr ns), .imm (.obj 0), .imm (.int many), .imm (.int s), .imm (.int t), .imm (.int nd), .un, .un, .un]) (tg := .n 8) (test := fun σ' => evt (upto FG 9) [.and [.op .eq (.call 1 [.var 0, .var 1, .cst (.int 5)]) (.cst (.int 0)), .op .ne (.var 8) (.var 5)]] σ') (elt := fun σ' => ev (upto FG 9) (.var 8) σ') (fun d => ∃ x, d = .int x ∧ x ≠ nd) (fun k d => d = k) (rangeD 1 many) fun d hd => by
      obtain ⟨x, rfl, x0, x1⟩ := range_asc 1 many d hd
      refine ⟨[.imm (.scr ns), .imm (.obj 0), .imm (.int many), .imm (.int s), .imm (.int t), .imm (.int nd), .un, .un, .imm (.int x)], rfl, ?_, fun _ => .of (fun g => rfl) rfl⟩
      refine Got.eq ((hand x).bind (f := fun y => M.opt (truth y)) fun d ⟨b, hb, hx⟩ => ?_) (by rw [evt])
      subst hb
      exact .pure fun z => ⟨x, rfl, hx z⟩
    refine got_prim1 (got_comp (items := rangeD 1 many) (.of (fun g => by
      show M.opt (walkR [.int 1, .int many]) g = _
      rw [hr]
      rfl) rfl) hcomp) fun d ⟨ds, hd, ks, h1, h2, h3, h4⟩ => ?_
    have : ds = ks := by
      refine List.ext_getElem? fun i => ?_
      cases e : ks[i]? with
      | none =>
        rw [List.getElem?_eq_none_iff] at e ⊢
        omega
      | some k =>
        have hi : i < ds.length := by rw [h3]; exact (List.getElem?_eq_some_iff.mp e).1
        rw [List.getElem?_eq_getElem hi, h4 i k ds[i] e (List.getElem?_eq_getElem hi)]
    subst this
    obtain ⟨lb, rfl, p1, p2⟩ := sub_ints h1
    subst hd
    refine ⟨.tup (lb.map D.int), rfl, lb, rfl, p2, p1, fun z => ?_⟩
    obtain ⟨x, e, ne⟩ := h2 (.int nd) (List.mem_map_of_mem z)
    cases e
    exact ne rfl
  subst hb
  refine ⟨[.imm (.scr ns), .imm (.obj 0), .imm (.int many), .imm (.int s), .imm (.int t), .imm (.int nd), .imm (.tup (lb.map D.int)), .un, .un], rfl, ?_⟩
  refine Got.eq ?_ (funext fun g => exs_new (l := [.int 0]) (g1 := g) rfl (by show 7 < 9; omega))
  refine got_cons (P := fun σ' => ∃ (le : List Int) (y : Sl), σ' = [.imm (.scr ns), .imm (.obj 0), .imm (.int many), .imm (.int s), .imm (.int t), .imm (.int nd), .imm (.tup (lb.map D.int)), .ml (le.map D.int), y] ∧ (le.length : Int) = many ∧ (∀ x ∈ le, 0 ≤ x ∧ x < many) ∧ ∃ r, le = 0 :: r) ?_ fun σ' ⟨le, y, hσ, l1, l2, l3⟩ => ?_
  · let I : Nat → List Sl → Prop := fun k σ' => ∃ (le : List Int) (y : Sl), σ' = [.imm (.scr ns), .imm (.obj 0), .imm (.int many), .imm (.int s), .imm (.int t), .imm (.int nd), .imm (.tup (lb.map D.int)), .ml (le.map D.int), y] ∧ le.length = 1 + k ∧ (∀ x ∈ le, 0 ≤ x ∧ x < many) ∧ ∃ r, le = 0 :: r
    have hloop := got_loop (len := ns.length) (body := fun σ' => exs (upto FG 9) fuel [.app 7 (.idx (.tup [.var 8, .cst (.int 0), .call 1 [.var 0, .var 1, .var 2]]) (.call 1 [.var 0, .var 1, .cst (.int 3)]))] σ') (tg := .n 8) (tmp := []) I (rangeD 1 many) 0 [.imm (.scr ns), .imm (.obj 0), .imm (.int many), .imm (.int s), .imm (.int t), .imm (.int nd), .imm (.tup (lb.map D.int)), .ml [.int 0], .un] ⟨[0], .un, rfl, rfl, by simp; omega, [], rfl⟩ fun i d σ' hi hI => by
      obtain ⟨le, y, rfl, a1, a2, a3⟩ := hI
      obtain ⟨x, rfl, x0, x1⟩ := range_asc 1 many d (List.mem_of_getElem? hi)
      have hb : i < (rangeD 1 many).length := (List.getElem?_eq_some_iff.mp hi).1
      unfold rangeD at hb
      rw [List.length_map, List.length_range] at hb
      refine ⟨[.imm (.scr ns), .imm (.obj 0), .imm (.int many), .imm (.int s), .imm (.int t), .imm (.int nd), .imm (.tup (lb.map D.int)), .ml (le.map D.int), .imm (.int x)], rfl, ?_⟩
      have hv : Got ns.length (ev (upto FG 9) (.idx (.tup [.var 8, .cst (.int 0), .call 1 [.var 0, .var 1, .var 2]]) (.call 1 [.var 0, .var 1, .cst (.int 3)])) [.imm (.scr ns), .imm (.obj 0), .imm (.int many), .imm (.int s), .imm (.int t), .imm (.int nd), .imm (.tup (lb.map D.int)), .ml (le.map D.int), .imm (.int x)]) fun d => ∃ v, d = .int v ∧ 0 ≤ v ∧ v < many := by
        refine got_idx (got_tup (got_evs (got_e fun g => rfl) (got_evs got_cst (got_evs (got_call (fun g => rfl) (dr hl (by decide) (m := many) (by omega) (by omega))) got_nil)))) (got_call (fun g => rfl) (dr hl (by decide) (m := 3) (by omega) (by omega))) fun p q ⟨ds, hp, d1, r1, e1, hd1, d2, r2, e2, hd2, d3, r3, e3, ⟨v, hv, v0, v1⟩, hr3⟩ ⟨j, hq, j0, j1⟩ => ?_
        subst hp e1 hd1 e2 hd2 e3 hv hr3 hq
        have : j = 0 ∨ j = 1 ∨ j = 2 := by omega
        rcases this with rfl | rfl | rfl
        · exact ⟨.int x, rfl, x, rfl, by omega, x1⟩
        · exact ⟨.int 0, rfl, 0, rfl, by omega, by omega⟩
        · exact ⟨.int v, rfl, v, rfl, v0, v1⟩
      refine (got_app (l := le.map D.int) rfl (by rw [List.length_map, a1, sizeLine_eq]; omega) hv).imp fun f ⟨d, hf, v, hd, v0, v1⟩ => ?_
      subst hf hd
      obtain ⟨r, rfl⟩ := a3
      refine ⟨_, rfl, 0 :: r ++ [v], .imm (.int x), ?_, ?_, ?_, r ++ [v], rfl⟩
      · rw [List.map_append]
        rfl
      · rw [List.length_append, a1]
        simp
        omega
      · intro y hy
        rcases List.mem_append.mp hy with z | z
        · exact a2 y z
        · have : y = v := by simpa using z
          subst this
          exact ⟨v0, v1⟩
    refine (got_for (items := rangeD 1 many) (.of (fun g => by
      show M.opt (walkR [.int 1, .int many]) g = _
      rw [hr]
      rfl) rfl) hloop).imp fun f ⟨σ', hf, le, y, hσ, l1, l2, l3⟩ => ⟨σ', hf, le, y, hσ, ?_, l2, l3⟩
    rw [l1]
    unfold rangeD
    rw [List.length_map, List.length_range]
    omega
  · subst hσ
    refine Got.eq ?_ (funext fun g => exs_fz (l := le.map D.int) rfl)
    refine (got_ret (got_e (d := ruleD s t nd lb le) fun g => rfl)).imp fun f ⟨d, hf, hd⟩ => ⟨d, hf, s, t, nd, lb, le, hd, ⟨⟨s0, s1⟩, ⟨t0, t1⟩, ⟨n0, n1⟩, b0, b1, b2, l2, l1, l3⟩⟩
/-- a drawn protocol's rules -/
def Rules (many : Int) (rs : List D) : Prop := rs.length ≤ 4 ∧ ∀ d ∈ rs, ∃ s t nd lb le, d = ruleD s t nd lb le ∧ Rule many s t nd lb le
theorem e10 : Got ns.length (Φ 10 [.scr ns, .obj 0, .int 5, .int 4]) fun d => ∃ many rs, d = .tup [.int many, .tup rs] ∧ 2 ≤ many ∧ many ≤ 5 ∧ Rules many rs := by
  refine got_body (b := b10) (k := 2) (as := [.scr ns, .obj 0, .int 5, .int 4]) ?_
  refine got_asg (P := fun d => ∃ v, d = .int v ∧ 2 ≤ v ∧ v < 6) (got_op got_cst (got_call (fun g => rfl) (dr hl (by decide) (m := 4) (by omega) (by omega))) fun x y hx ⟨v, hy, v0, v1⟩ => by subst hx hy; exact ⟨_, rfl, 2 + v, rfl, by omega, by omega⟩) fun d ⟨many, hd, m0, m1⟩ => ?_
  subst hd
  refine ⟨[.imm (.scr ns), .imm (.obj 0), .imm (.int 5), .imm (.int 4), .imm (.int many), .un], rfl, ?_⟩
  refine (got_ret (got_tup (got_evs (got_e fun g => rfl) (got_evs (got_prim1 (Q := fun d => ∃ rs, d = .tup rs ∧ Rules many rs) (got_comp' (Q := Rules many) (got_rng1 (lo := 0) (hi := 5) (got_call (fun g => rfl) (dr hl (by decide) (m := 5) (by omega) (by omega))) (by omega) (by omega)) fun items ⟨v, hi, v0, v1⟩ => ?_) fun d ⟨l, hd, hq⟩ => by subst hd; exact ⟨.tup l, rfl, l, rfl, hq⟩) got_nil)))).imp fun f ⟨d, hf, ds, hd, d1, r1, e1, hd1, d2, r2, e2, ⟨rs, hrs, hR⟩, hr2⟩ => ?_
  · subst hi
    refine (got_compL (fun _ => True) (fun _ d => ∃ s t nd lb le, d = ruleD s t nd lb le ∧ Rule many s t nd lb le) (rangeD 0 v) fun d hd => ⟨[.imm (.scr ns), .imm (.obj 0), .imm (.int 5), .imm (.int 4), .imm (.int many), .imm d], rfl, .of (fun g => rfl) fun _ => trivial, fun _ => got_call (fun g => rfl) ?_⟩).imp fun ds ⟨ks, h1, h2, h3, h4⟩ => ⟨?_, fun d hd => ?_⟩
    · rw [upto_lt (by decide)]
      exact e9 hl (by omega) (by omega)
    · have := h1.length_le
      rw [range_len] at this
      omega
    · obtain ⟨i, hi⟩ := List.mem_iff_getElem?.mp hd
      have hlt : i < ks.length := by rw [← h3]; exact (List.getElem?_eq_some_iff.mp hi).1
      exact h4 i ks[i] d (List.getElem?_eq_getElem hlt) hi
  · subst hd e1 hd1 e2 hrs hr2
    exact ⟨_, hf, many, rs, rfl, by omega, by omega, hR⟩
/-- a drawn pattern -/
structure Pat (many most : Int) (l : List Int) : Prop where
  len : (l.length : Int) = many
  hd : ∃ r, l = 0 :: r
  pos : ∀ x ∈ l, 0 ≤ x
  lo : 1 ≤ l.sum
  hi : l.sum ≤ most
theorem sum_set : ∀ (l : List Int) (j : Nat) (a : Int), l[j]? = some a → (l.set j (a + 1)).sum = l.sum + 1
  | [], j, a, h => by simp at h
  | x :: l, 0, a, h => by
    simp at h
    subst h
    simp
    omega
  | x :: l, j + 1, a, h => by
    have := sum_set l j a (by simpa using h)
    simp
    omega
theorem e18 {many most : Int} (h2 : 2 ≤ many) (h5 : many ≤ 5) (m0 : 1 ≤ most) (m1 : most ≤ 9) : Got ns.length (Φ 18 [.scr ns, .obj 0, .int many, .int most]) fun d => ∃ l, d = .tup (l.map D.int) ∧ Pat many most l := by
  refine got_body (b := b18) (k := 2) (as := [.scr ns, .obj 0, .int many, .int most]) ?_
  have hrep : (List.replicate many.toNat [D.int 0]).flatten = (List.replicate many.toNat (0 : Int)).map D.int := by
    induction many.toNat with
    | zero => rfl
    | succ n ih => rw [List.replicate_succ, List.flatten_cons, ih, List.replicate_succ]; rfl
  refine Got.eq ?_ (funext fun g => exs_new (l := (List.replicate many.toNat (0 : Int)).map D.int) (g1 := g) (op_b (x := .lst [.int 0]) (y := .int many) rfl rfl (by
    show (if -1000 ≤ many ∧ many ≤ 1000 ∧ 1 ≤ 1000 then some (D.lst (List.replicate many.toNat [D.int 0]).flatten) else none) = _
    rw [if_pos (by omega), hrep])) (by show 4 < 6; omega))
  refine got_cons (P := fun σ' => ∃ (l : List Int) (y : Sl), σ' = [.imm (.scr ns), .imm (.obj 0), .imm (.int many), .imm (.int most), .ml (l.map D.int), y] ∧ Pat many most l) ?_ fun σ' ⟨l, y, hσ, hP⟩ => ?_
  · refine got_for' (got_rng1 (lo := 1) (hi := most + 1) (got_op got_cst (got_call (fun g => rfl) (dr hl (by decide) (m := most) (by omega) (by omega))) fun x y hx ⟨v, hy, v0, v1⟩ => by subst hx hy; exact ⟨_, rfl, 1 + v, rfl, by omega, by omega⟩) (by omega) (by omega)) fun items ⟨v, hv, v0, v1⟩ => ?_
    subst hv
    refine (got_loop (fun k σ' => ∃ (l : List Int) (y : Sl), σ' = [.imm (.scr ns), .imm (.obj 0), .imm (.int many), .imm (.int most), .ml (l.map D.int), y] ∧ (l.length : Int) = many ∧ (∃ r, l = 0 :: r) ∧ (∀ x ∈ l, 0 ≤ x) ∧ l.sum = k) (rangeD 0 v) 0 _ ⟨List.replicate many.toNat 0, .un, rfl, by rw [List.length_replicate]; omega, ?_, ?_, ?_⟩ fun i d σ' hi ⟨l, y, hσ, l1, l2, l3, l4⟩ => ?_).imp fun f ⟨σ', hf, l, y, hσ, l1, l2, l3, l4⟩ => ⟨σ', hf, l, y, hσ, l1, l2, l3, ?_, ?_⟩
    · obtain ⟨n, hn⟩ : ∃ n, many.toNat = n + 1 := ⟨many.toNat - 1, by omega⟩
      rw [hn, List.replicate_succ]
      exact ⟨_, rfl⟩
    · intro x hx
      rw [List.eq_of_mem_replicate hx]
      omega
    · induction many.toNat with
      | zero => rfl
      | succ n ih => rw [List.replicate_succ, List.sum_cons, ih]; rfl
    · subst hσ
      refine ⟨[.imm (.scr ns), .imm (.obj 0), .imm (.int many), .imm (.int most), .ml (l.map D.int), .imm d], rfl, ?_⟩
      obtain ⟨r, rfl⟩ := l2
      refine (got_augix (l := (0 :: r).map D.int) (K := fun n => 1 ≤ n ∧ n < many) (V := fun b => b = 1) rfl (got_op got_cst (got_call (fun g => rfl) (dr hl (by decide) (m := many - 1) (by omega) (by omega))) fun x y hx ⟨w, hy, w0, w1⟩ => by subst hx hy; exact ⟨_, rfl, 1 + w, rfl, by omega, by omega⟩) (got_cst.imp fun x hx => ⟨1, hx, rfl⟩) fun n ⟨q0, q1⟩ => ?_).imp fun f ⟨n, j, a, b, ⟨q0, q1⟩, hb, hj, ha, hf⟩ => ?_
      · have hlt : n.toNat < (0 :: r).length := by omega
        refine ⟨n.toNat, (0 :: r)[n.toNat], ?_, ?_⟩
        · unfold ixN
          rw [if_pos (by omega), if_pos (by rw [List.length_map]; omega)]
        · rw [List.getElem?_map, List.getElem?_eq_getElem hlt]
          rfl
      · subst hb hf
        have hj' : j = n.toNat := by
          unfold ixN at hj
          rw [if_pos (by omega), if_pos (by rw [List.length_map]; omega)] at hj
          exact (Option.some.inj hj).symm
        rw [List.getElem?_map] at ha
        obtain ⟨a', ha', e⟩ := Option.map_eq_some_iff.mp ha
        cases e
        refine ⟨_, rfl, (0 :: r).set j (a + 1), .imm d, ?_, by rw [List.length_set]; exact l1, ?_, ?_, ?_⟩
        · rw [List.map_set]
          rfl
        · obtain ⟨k, hk⟩ : ∃ k, j = k + 1 := ⟨j - 1, by omega⟩
          rw [hk]
          exact ⟨_, rfl⟩
        · intro x hx
          rcases List.mem_or_eq_of_mem_set hx with z | z
          · exact l3 x z
          · have := l3 a (List.mem_of_getElem? ha')
            omega
        · rw [sum_set hl _ _ _ ha', l4]
          omega
    · rw [l4, range_len]; omega
    · rw [l4, range_len]; omega
  · subst hσ
    refine Got.eq ?_ (funext fun g => exs_fz (l := l.map D.int) rfl)
    exact (got_ret (got_e (d := .tup (l.map D.int)) fun g => rfl)).imp fun f ⟨d, hf, hd⟩ => ⟨d, hf, l, hd, hP⟩
end
end GL
namespace GL
open PySem PySem.Spec L2 MC
theorem toM {α : Type} {m : M α} {a : α} (h : ∀ g, m g = some (.ok a, g)) : m = M.pure a := funext h
theorem toX {α : Type} {m : M α} {c : Str} (h : ∀ g, m g = some (.ex c, g)) : m = M.exc c := funext h
theorem ofM {α : Type} {m : M α} {a : α} (h : m = M.pure a) (g : G) : m g = some (.ok a, g) := by rw [h]; rfl
/-! ### symbolic runs: what comes first is run first -/
section
variable (Φ : Ph) (fuel : Nat)
def compE (tg : Tg) (elt : E) (cs : List E) (σ : List Sl) (l : List D) : M (List D) := M.noex (compL tg (fun σ' => evt Φ cs σ') (fun σ' => ev Φ elt σ') σ l)
def loopE (tg : Tg) (b : List S) (tmp : List Nat) (l : List D) (σ : List Sl) : M Flow' := loopF (fun σ' => exs Φ fuel b σ') tg tmp l σ
def whilE (i : Nat) (b : List S) (n : Nat) (σ : List Sl) : M Flow' := whilF (fun σ' => M.bind (mlS σ' i) fun l => M.pure (!l.isEmpty)) (fun σ' => exs Φ fuel b σ') n σ
def seqX (r : List S) (m : M Flow') : M Flow' := M.bind m fun f => match f with
  | .next σ' => exs Φ fuel r σ'
  | f => M.pure f
def iteX (a b : List S) (σ : List Sl) (m : M D) : M Flow' := M.bind m fun x => M.bind (M.opt (truth x)) fun t => match t with
  | true => exs Φ fuel a σ
  | false => exs Φ fuel b σ
def iteE (a b : E) (σ : List Sl) (m : M D) : M D := M.bind m fun x => M.bind (M.opt (truth x)) fun t => match t with
  | true => ev Φ a σ
  | false => ev Φ b σ
def andX (es : List E) (σ : List Sl) (m : M D) : M D := M.bind m fun x => M.bind (M.opt (truth x)) fun t => match t with
  | true => evAnd Φ es σ
  | false => M.pure x
def orX (es : List E) (σ : List Sl) (m : M D) : M D := M.bind m fun x => M.bind (M.opt (truth x)) fun t => match t with
  | true => M.pure x
  | false => evOr Φ es σ
end
def negX (m : M D) : M D := M.bind m fun x => M.bind (M.opt (truth x)) fun t => M.pure (.bl (!t))
def opX (o : Op2) (m k : M D) : M D := M.bind m fun x => M.bind k fun y => M.opt (opD o x y)
def consX (m : M D) (k : M (List D)) : M (List D) := M.bind m fun d => M.bind k fun ds => M.pure (d :: ds)
def asgX (tg : Tg) (σ : List Sl) (m : M D) : M Flow' := M.bind m fun d => M.bind (M.opt (put tg d σ)) fun σ' => M.pure (.next σ')
section
variable {Φ : Ph} {fuel : Nat} {σ σ' : List Sl} {a b c e e' : E} {es : List E} {x y d : D} {ds : List D} {i : Nat} {s : S} {r A B : List S} {o : Op2} {tg : Tg}
theorem q_var : ev Φ (.var i) σ = slotD σ i := by rw [ev]
theorem q_cst : ev Φ (.cst d) σ = M.pure d := by rw [ev]
theorem q_con {z : Str} {n : Int} : ev Φ (.con z n) σ = M.pure (.int n) := by rw [ev]
theorem q_tup : ev Φ (.tup es) σ = M.bind (evs Φ es σ) fun ds => M.pure (.tup ds) := by rw [ev]
theorem q_lst : ev Φ (.lst es) σ = M.bind (evs Φ es σ) fun ds => M.pure (.lst ds) := by rw [ev]
theorem q_op : ev Φ (.op o a b) σ = opX o (ev Φ a σ) (ev Φ b σ) := by rw [ev] <;> rfl
theorem opX_p : opX o (M.pure x) (M.pure y) = M.opt (opD o x y) := rfl
theorem q_chn {o' : Op2} : ev Φ (.chn o o' a b c) σ = M.bind (ev Φ a σ) fun x => M.bind (ev Φ b σ) fun y => M.bind (M.opt ((opD o x y).bind asB)) fun t => match t with
    | true => M.bind (ev Φ c σ) fun z => M.opt (opD o' y z)
    | false => M.pure (.bl false) := by rw [ev] <;> rfl
theorem q_and : ev Φ (.and es) σ = evAnd Φ es σ := by rw [ev]
theorem q_or : ev Φ (.or es) σ = evOr Φ es σ := by rw [ev]
theorem q_and1 : evAnd Φ [e] σ = ev Φ e σ := by rw [evAnd]
theorem q_and2 : evAnd Φ (e :: e' :: es) σ = andX Φ (e' :: es) σ (ev Φ e σ) := by
  rw [evAnd]
  · rfl
  · intro z; cases z
theorem q_or1 : evOr Φ [e] σ = ev Φ e σ := by rw [evOr]
theorem q_or2 : evOr Φ (e :: e' :: es) σ = orX Φ (e' :: es) σ (ev Φ e σ) := by
  rw [evOr]
  · rfl
  · intro z; cases z
theorem andX_t : andX Φ es σ (M.pure (.bl true)) = evAnd Φ es σ := rfl
theorem andX_f : andX Φ es σ (M.pure (.bl false)) = M.pure (.bl false) := rfl
theorem orX_t : orX Φ es σ (M.pure (.bl true)) = M.pure (.bl true) := rfl
theorem orX_f : orX Φ es σ (M.pure (.bl false)) = evOr Φ es σ := rfl
theorem q_not : ev Φ (.not e) σ = negX (ev Φ e σ) := by rw [ev] <;> rfl
theorem negX_b {t : Bool} : negX (M.pure (.bl t)) = M.pure (.bl (!t)) := rfl
theorem q_neg {n : Int} : ev Φ (.neg (.cst (.int n))) σ = M.pure (.int (-n)) := by rw [ev, ev]; rfl
theorem q_ife : ev Φ (.ife c a b) σ = iteE Φ a b σ (ev Φ c σ) := by rw [ev] <;> rfl
theorem iteE_t : iteE Φ a b σ (M.pure (.bl true)) = ev Φ a σ := rfl
theorem iteE_f : iteE Φ a b σ (M.pure (.bl false)) = ev Φ b σ := rfl
theorem q_idx : ev Φ (.idx a b) σ = M.bind (ev Φ a σ) fun x => M.bind (ev Φ b σ) fun y => M.opt (ixOf x y) := by rw [ev]
theorem q_slc {lo hi : Option E} : ev Φ (.slc a lo hi) σ = M.bind (ev Φ a σ) fun x => M.bind (evo Φ lo σ) fun l => M.bind (evo Φ hi σ) fun h => M.opt (slOf x l h) := by rw [ev]
theorem q_evo0 : evo Φ none σ = M.pure none := by rw [evo]
theorem q_evo1 : evo Φ (some e) σ = M.bind (ev Φ e σ) fun x => match x with
    | .int i => M.pure (some i)
    | _ => M.fail := by rw [evo] <;> rfl
theorem q_call {f : Nat} : ev Φ (.call f es) σ = M.bind (evs Φ es σ) fun ds => Φ f ds := by rw [ev]
theorem q_callk {f : Nat} {ks : List (Str × E)} {perm : List Nat} : ev Φ (.callk f es ks perm) σ = M.bind (evs Φ es σ) fun ds => M.bind (evk Φ ks σ) fun zs => M.bind (M.opt (permD perm (ds ++ zs))) fun as => Φ f as := by rw [ev]
theorem q_evk0 : evk Φ [] σ = M.pure [] := by rw [evk]
theorem q_evk1 {k : Str} {ks : List (Str × E)} : evk Φ ((k, e) :: ks) σ = consX (ev Φ e σ) (evk Φ ks σ) := by rw [evk] <;> rfl
theorem q_prim {p : Pr} : ev Φ (.prim p es) σ = M.bind (evs Φ es σ) fun ds => M.opt (prD p ds) := by rw [ev]
theorem q_isi {t : Ty} : ev Φ (.isi e t) σ = M.bind (ev Φ e σ) fun x => M.opt ((isTy x t).map .bl) := by rw [ev]
theorem q_comp {own : List Nat} {it : MC.It} {cs : List E} : ev Φ (.comp e tg own it cs) σ = M.bind (evi Φ it σ) fun items => M.bind (compE Φ tg e cs (clear own σ) items) fun ds => M.pure (.lst ds) := by rw [ev] <;> rfl
theorem q_at : ev Φ (.at_ i e) σ = M.bind (seqS σ i) fun _ => M.bind (ev Φ e σ) fun k => M.bind (seqS σ i) fun x => M.opt (ixOf x k) := by rw [ev]
theorem q_in {n : Bool} : ev Φ (.in_ n e i) σ = M.bind (ev Φ e σ) fun k => M.bind (mdS σ i) fun x => M.opt ((memD k x).map fun b => .bl (b != n)) := by rw [ev]
theorem q_get : ev Φ (.get a b) σ = M.bind (ev Φ a σ) fun x => M.bind (M.opt (dctOk x)) fun _ => M.bind (ev Φ b σ) fun y => M.opt (getDc x y .non) := by rw [ev]
theorem q_get3 : ev Φ (.get3 a b c) σ = M.bind (ev Φ a σ) fun x => M.bind (M.opt (dctOk x)) fun _ => M.bind (ev Φ b σ) fun y => M.bind (ev Φ c σ) fun z => M.opt (getDc x y z) := by rw [ev]
theorem q_fld {k f : Str} : ev Φ (.fld k a f) σ = M.bind (ev Φ a σ) fun x => M.opt (fldOf k f x) := by rw [ev]
theorem q_res : ev Φ (.res e) σ = M.res (ev Φ e (immS σ)) := by rw [ev]
theorem res_p : M.res (M.pure d) = M.pure (.tup [.str "returns", d]) := rfl
theorem q_nil : evs Φ [] σ = M.pure [] := by rw [evs]
theorem q_cons : evs Φ (e :: es) σ = consX (ev Φ e σ) (evs Φ es σ) := by rw [evs] <;> rfl
theorem consX_p : consX (M.pure d) (M.pure ds) = M.pure (d :: ds) := rfl
theorem q_ite : evi Φ (.e e) σ = M.bind (ev Φ e σ) fun x => M.opt (walkE x) := by rw [evi]
theorem q_rng : evi Φ (.rng es) σ = M.bind (evs Φ es σ) fun ds => M.opt (walkR ds) := by rw [evi]
theorem q_enum : evi Φ (.enum e) σ = M.bind (ev Φ e σ) fun x => M.opt ((walkL x).map (enumFrom 0)) := by rw [evi]
theorem q_zip : evi Φ (.zip a b) σ = M.bind (ev Φ a σ) fun x => M.bind (ev Φ b σ) fun y => M.opt (walkZ x y) := by rw [evi]
/-! statements -/
theorem s_nil : exs Φ fuel [] σ = M.pure (.next σ) := by rw [exs]
theorem s_cons : exs Φ fuel (s :: r) σ = seqX Φ fuel r (ex Φ fuel s σ) := by rw [exs] <;> rfl
theorem seqX_n : seqX Φ fuel r (M.pure (.next σ)) = exs Φ fuel r σ := rfl
theorem seqX_r : seqX Φ fuel r (M.pure (.ret d)) = M.pure (.ret d) := rfl
theorem seqX_x {k : Str} : seqX Φ fuel r (M.exc k) = M.exc k := rfl
theorem seqX_b : seqX Φ fuel r (M.pure (.brk σ)) = M.pure (.brk σ) := rfl
theorem seqX_c : seqX Φ fuel r (M.pure (.cnt σ)) = M.pure (.cnt σ) := rfl
theorem s_asg : ex Φ fuel (.asg tg e) σ = asgX tg σ (ev Φ e σ) := by rw [ex] <;> rfl
theorem asgX_p : asgX tg σ (M.pure d) = M.bind (M.opt (put tg d σ)) fun σ' => M.pure (.next σ') := rfl
theorem s_par {is : List Nat} : ex Φ fuel (.par is es) σ = M.bind (evs Φ es σ) fun ds => M.bind (M.opt (setAll is ds σ)) fun σ' => M.pure (.next σ') := by rw [ex]
theorem s_new : ex Φ fuel (.new i e) σ = M.bind (ev Φ e σ) (newS σ i) := by rw [ex]
theorem s_fz : ex Φ fuel (.fz i) σ = fzS σ i := by rw [ex]
theorem s_clr {is : List Nat} : ex Φ fuel (.clr is) σ = M.pure (.next (clear is σ)) := by rw [ex]
theorem s_setix : ex Φ fuel (.setix i a b) σ = M.bind (ev Φ b σ) fun d => M.bind (mlS σ i) fun _ => M.bind (ev Φ a σ) fun n => setS σ i n d := by rw [ex]
theorem s_augix : ex Φ fuel (.augix i o a b) σ = M.bind (mlS σ i) fun _ => M.bind (ev Φ a σ) fun n => M.bind (getS σ i n) fun x => M.bind (ev Φ b σ) fun y => M.bind (M.opt (augI o x y)) fun z => setS σ i n z := by rw [ex]
theorem s_aug : ex Φ fuel (.aug i o e) σ = M.bind (slotD σ i) fun x => M.bind (ev Φ e σ) fun y => M.bind (M.opt (augI o x y)) fun z => M.pure (.next (σ.set i (.imm z))) := by rw [ex]
theorem s_app : ex Φ fuel (.app i e) σ = M.bind (mlS σ i) fun _ => M.bind (ev Φ e σ) (appS σ i) := by rw [ex]
theorem s_ext : ex Φ fuel (.ext i e) σ = M.bind (mlS σ i) fun _ => M.bind (ev Φ e σ) (extS σ i) := by rw [ex]
theorem s_ife : ex Φ fuel (.ife c A B) σ = iteX Φ fuel A B σ (ev Φ c σ) := by rw [ex] <;> rfl
theorem iteX_t : iteX Φ fuel A B σ (M.pure (.bl true)) = exs Φ fuel A σ := rfl
theorem iteX_f : iteX Φ fuel A B σ (M.pure (.bl false)) = exs Φ fuel B σ := rfl
theorem s_for {it : MC.It} {tmp : List Nat} : ex Φ fuel (.forr tg it A tmp) σ = M.bind (evi Φ it σ) fun items => loopE Φ fuel tg A tmp items σ := by rw [ex] <;> rfl
theorem s_whilL : ex Φ fuel (.whilL i A) σ = whilE Φ fuel i A fuel σ := by rw [ex] <;> rfl
theorem s_newd0 {t : Bool} : ex Φ fuel (.newd i t none) σ = if i < σ.length then M.pure (.next (σ.set i (.md t [] []))) else M.fail := by rw [ex]
theorem s_newd1 {t : Bool} : ex Φ fuel (.newd i t (some (a, b))) σ = M.bind (ev Φ a σ) fun x => M.bind (ev Φ b σ) fun y => M.bind (M.opt (dPut t [] [] x y)) fun p => if i < σ.length then M.pure (.next (σ.set i (.md t p.1 p.2))) else M.fail := by rw [ex]
theorem s_setk : ex Φ fuel (.setk i a b) σ = M.bind (ev Φ b σ) fun d => M.bind (mdS σ i) fun _ => M.bind (ev Φ a σ) fun n => putS σ i n d := by rw [ex]
theorem s_pop {j : Nat} : ex Φ fuel (.pop i j) σ = popS σ i j := by rw [ex]
theorem s_par2 {j : Nat} {m1 m2 : Bool} : ex Φ fuel (.par2 i j m1 m2 a b) σ = M.bind (ev Φ a σ) fun x => M.bind (M.opt (mdOk m1 x)) fun _ => M.bind (ev Φ b σ) fun y => M.bind (setM σ i m1 x) fun σ' => M.bind (setM σ' j m2 y) fun σ'' => M.pure (.next σ'') := by rw [ex]
def set2X (Φ : Ph) (i : Nat) (k2 : E) (y : D) (m : M Flow') : M Flow' := M.bind m fun f => match f with
    | .next σ1 => M.bind (mlS σ1 i) fun _ => M.bind (ev Φ k2 σ1) fun b => setS σ1 i b y
    | _ => M.fail
theorem s_set2 {k1 k2 v1 v2 : E} : ex Φ fuel (.set2 i k1 k2 v1 v2) σ = M.bind (ev Φ v1 σ) fun x => M.bind (ev Φ v2 σ) fun y => M.bind (mlS σ i) fun _ => M.bind (ev Φ k1 σ) fun a => set2X Φ i k2 y (setS σ i a x) := by rw [ex] <;> rfl
theorem set2X_n {k2 : E} : set2X Φ i k2 y (M.pure (.next σ)) = M.bind (mlS σ i) fun _ => M.bind (ev Φ k2 σ) fun b => setS σ i b y := rfl
theorem s_ret : ex Φ fuel (.ret e) σ = M.bind (ev Φ e σ) fun d => M.pure (.ret d) := by rw [ex]
theorem s_exp : ex Φ fuel (.exp e) σ = M.bind (ev Φ e σ) fun _ => M.pure (.next σ) := by rw [ex]
theorem s_raise {k : Str} : ex Φ fuel (.raise k) σ = M.exc k := by rw [ex]
theorem b_body {bd : List S} {n : Nat} {as : List D} : body Φ fuel bd n as = M.bind (exs Φ fuel bd (as.map Sl.imm ++ List.replicate n .un)) retD := rfl
theorem retD_r : retD (.ret d) = M.pure d := rfl
theorem retD_n : retD (.next σ) = M.pure .non := rfl
theorem slot_z {x : Sl} {σ : List Sl} : slot (x :: σ) 0 = x := rfl
theorem slot_s {x : Sl} {σ : List Sl} {i : Nat} : slot (x :: σ) (i + 1) = slot σ i := rfl
theorem slotD_z {d : D} {σ : List Sl} : slotD (.imm d :: σ) 0 = M.pure d := rfl
theorem slotD_s {x : Sl} {σ : List Sl} {i : Nat} : slotD (x :: σ) (i + 1) = slotD σ i := rfl
theorem mlS_z {l : List D} {σ : List Sl} : mlS (.ml l :: σ) 0 = M.pure l := rfl
theorem mlS_s {x : Sl} {σ : List Sl} {i : Nat} : mlS (x :: σ) (i + 1) = mlS σ i := rfl
theorem seqS_z {l : List D} {σ : List Sl} : seqS (.ml l :: σ) 0 = M.pure (.lst l) := rfl
theorem seqS_d {t : Bool} {ks vs : List D} {σ : List Sl} : seqS (.md t ks vs :: σ) 0 = M.pure (.dct t ks vs) := rfl
theorem seqS_s {x : Sl} {σ : List Sl} {i : Nat} : seqS (x :: σ) (i + 1) = seqS σ i := rfl
theorem mdS_z {t : Bool} {ks vs : List D} {σ : List Sl} : mdS (.md t ks vs :: σ) 0 = M.pure (.dct t ks vs) := rfl
theorem mdS_s {x : Sl} {σ : List Sl} {i : Nat} : mdS (x :: σ) (i + 1) = mdS σ i := rfl
theorem newS_l {l : List D} (h : i < σ.length) : newS σ i (.lst l) = M.pure (.next (σ.set i (.ml l))) := by
  show (if i < σ.length then M.pure (Flow'.next (σ.set i (.ml l))) else M.fail) = _
  rw [if_pos h]
def fzQ (σ : List Sl) (i : Nat) : Sl → M Flow'
  | .ml l => M.pure (.next (σ.set i (.imm (.lst l))))
  | .md t ks vs => M.pure (.next (σ.set i (.imm (.dct t ks vs))))
  | _ => M.fail
theorem fz_q : fzS σ i = fzQ σ i (slot σ i) := by unfold fzS fzQ; rfl
theorem fzQ_l {l : List D} : fzQ σ i (.ml l) = M.pure (.next (σ.set i (.imm (.lst l)))) := rfl
theorem fzQ_d {t : Bool} {ks vs : List D} : fzQ σ i (.md t ks vs) = M.pure (.next (σ.set i (.imm (.dct t ks vs)))) := rfl
def appQ (σ : List Sl) (i : Nat) (d : D) : Sl → M Flow'
  | .ml l => if l.length < sizeLine then M.pure (.next (σ.set i (.ml (l ++ [d])))) else M.fail
  | _ => M.fail
theorem app_q : appS σ i d = appQ σ i d (slot σ i) := by unfold appS appQ; rfl
theorem appQ_l {l : List D} (hl : l.length < 16777216) : appQ σ i d (.ml l) = M.pure (.next (σ.set i (.ml (l ++ [d])))) := by
  show (if l.length < sizeLine then _ else _) = _
  rw [if_pos (by rw [sizeLine_eq]; omega)]
def extQ (σ : List Sl) (i : Nat) (v : D) : Sl → M Flow'
  | .ml l => match v with
    | .lst m => if l.length + m.length ≤ sizeLine then M.pure (.next (σ.set i (.ml (l ++ m)))) else M.fail
    | _ => M.fail
  | _ => M.fail
theorem ext_q {v : D} : extS σ i v = extQ σ i v (slot σ i) := by
  unfold extS extQ
  cases slot σ i <;> first | rfl | (cases v <;> rfl)
theorem extQ_l {l m : List D} (hl : l.length + m.length ≤ 16777216) : extQ σ i (.lst m) (.ml l) = M.pure (.next (σ.set i (.ml (l ++ m)))) := by
  show (if l.length + m.length ≤ sizeLine then _ else _) = _
  rw [if_pos (by rw [sizeLine_eq]; omega)]
def setQ (σ : List Sl) (i : Nat) (k d : D) : Sl → M Flow'
  | .ml l => match k with
    | .int n => (match ixN l.length n with
      | some j => M.pure (.next (σ.set i (.ml (l.set j d))))
      | none => M.fail)
    | _ => M.fail
  | _ => M.fail
theorem set_q {k : D} : setS σ i k d = setQ σ i k d (slot σ i) := by
  unfold setS setQ
  cases slot σ i <;> first | rfl | (cases k <;> rfl)
theorem setQ_l {l : List D} {j : Int} (h0 : 0 ≤ j) (h1 : j < l.length) : setQ σ i (.int j) d (.ml l) = M.pure (.next (σ.set i (.ml (l.set j.toNat d)))) := by
  show (match ixN l.length j with
    | some k => M.pure (Flow'.next (σ.set i (.ml (l.set k d))))
    | none => M.fail) = _
  unfold ixN
  rw [if_pos h0, if_pos (by omega)]
def getQ (k : D) : Sl → M D
  | .ml l => M.opt (ixOf (.lst l) k)
  | _ => M.fail
theorem get_q {k : D} : getS σ i k = getQ k (slot σ i) := by unfold getS getQ; rfl
theorem getQ_l {k : D} {l : List D} : getQ k (.ml l) = M.opt (ixOf (.lst l) k) := rfl
def putQ (σ : List Sl) (i : Nat) (k v : D) : Sl → M Flow'
  | .md t ks vs => M.bind (M.opt (dPut t ks vs k v)) fun p => M.pure (.next (σ.set i (.md t p.1 p.2)))
  | _ => M.fail
theorem put_q {k v : D} : putS σ i k v = putQ σ i k v (slot σ i) := by unfold putS putQ; rfl
theorem putQ_d {t : Bool} {ks vs : List D} {k v : D} : putQ σ i k v (.md t ks vs) = M.bind (M.opt (dPut t ks vs k v)) fun p => M.pure (.next (σ.set i (.md t p.1 p.2))) := rfl
theorem put_n {i : Nat} {d : D} {σ : List Sl} (h : i < σ.length) : put (.n i) d σ = some (σ.set i (.imm d)) := by
  show (if i < σ.length then some (σ.set i (.imm d)) else none) = _
  rw [if_pos h]
theorem put_t {l : List Tg} {ds : List D} {σ : List Sl} : put (.t l) (.tup ds) σ = puts l ds σ := rfl
theorem puts_z {σ : List Sl} : puts [] [] σ = some σ := rfl
theorem puts_c {t : Tg} {l : List Tg} {d : D} {ds : List D} {σ : List Sl} : puts (t :: l) (d :: ds) σ = (put t d σ).bind fun σ' => puts l ds σ' := by rw [puts]
theorem clear_z : clear [] σ = σ := rfl
theorem clear_c {is : List Nat} : clear (i :: is) σ = clear is (σ.set i .un) := rfl
theorem immS_z : immS [] = [] := rfl
theorem immS_i : immS (.imm d :: σ) = .imm d :: immS σ := rfl
theorem immS_u : immS (.un :: σ) = .un :: immS σ := rfl
theorem immS_l {l : List D} : immS (.ml l :: σ) = .un :: immS σ := rfl
theorem immS_d {t : Bool} {ks vs : List D} : immS (.md t ks vs :: σ) = .un :: immS σ := rfl
end
/-- one turn of a loop -/
def it2 (tmp : List Nat) (m : M Flow') : M (List Sl) := M.bind m fun f => match f with
  | .next σ => M.pure (clear tmp σ)
  | .cnt σ => M.pure (clear tmp σ)
  | _ => M.fail
def it1 (Φ : Ph) (fuel : Nat) (b : List S) (tmp : List Nat) (σ : List Sl) : M (List Sl) := it2 tmp (exs Φ fuel b σ)
def itE (Φ : Ph) (fuel : Nat) (tg : Tg) (b : List S) (tmp : List Nat) (d : D) (σ : List Sl) : M (List Sl) := M.bind (M.opt (put tg d σ)) (it1 Φ fuel b tmp)
theorem it_e {Φ : Ph} {fuel : Nat} {tg : Tg} {b : List S} {tmp : List Nat} {d : D} {σ : List Sl} : itE Φ fuel tg b tmp d σ = M.bind (M.opt (put tg d σ)) (it1 Φ fuel b tmp) := rfl
theorem it_1 {Φ : Ph} {fuel : Nat} {b : List S} {tmp : List Nat} {σ : List Sl} : it1 Φ fuel b tmp σ = it2 tmp (exs Φ fuel b σ) := rfl
theorem it2_n {tmp : List Nat} {σ : List Sl} : it2 tmp (M.pure (.next σ)) = M.pure (clear tmp σ) := rfl
theorem it2_c {tmp : List Nat} {σ : List Sl} : it2 tmp (M.pure (.cnt σ)) = M.pure (clear tmp σ) := rfl
theorem truth_b {b : Bool} : truth (.bl b) = some b := rfl
theorem up {n m : Nat} (h : m < n) : upto FG n m = Φ m := upto_lt h
/-- return f(..) -/
theorem tail_ret {Φ : Ph} {fuel : Nat} {r : List S} {m : M D} : M.bind (seqX Φ fuel r (M.bind m fun d => M.pure (.ret d))) retD = m := by
  funext g
  unfold seqX
  rw [M.bind_assoc, M.bind_assoc]
  exact congrFun (M.bind_pure _) g
/-! ### typed values -/
abbrev tI (l : List Int) : D := .tup (l.map D.int)
structure Rl where
  s : Int
  t : Int
  n : Int
  b : List Int
  e : List Int
def rD (r : Rl) : D := .tup [.int r.s, .int r.t, .int r.n, tI r.b, tI r.e]
def ge (l : List Int) (i : Int) : Int := l.getD i.toNat 0
theorem ix_at {l : List Int} {i : Int} (h0 : 0 ≤ i) (h1 : i < l.length) : ixOf (tI l) (.int i) = some (.int (ge l i)) := by
  show atI (l.map D.int) i = _
  unfold atI ixN
  rw [if_pos h0, List.length_map, if_pos (by omega)]
  show (l.map D.int)[i.toNat]? = _
  rw [List.getElem?_map, List.getElem?_eq_getElem (by omega)]
  unfold ge
  rw [List.getD_eq_getElem?_getD, List.getElem?_eq_getElem (by omega)]
  rfl
theorem op_subi {i j : Int} : opD .sub (.int i) (.int j) = some (.int (i - j)) := rfl
theorem op_addi {i j : Int} : opD .add (.int i) (.int j) = some (.int (i + j)) := rfl
theorem op_addt {a b : List D} (h : a.length + b.length ≤ 100000) : opD .add (.tup a) (.tup b) = some (.tup (a ++ b)) := by
  show (if a.length + b.length ≤ sizeLine then _ else _) = _
  rw [if_pos (by rw [sizeLine_eq]; omega)]
theorem op_addl {a b : List D} (h : a.length + b.length ≤ 100000) : opD .add (.lst a) (.lst b) = some (.lst (a ++ b)) := by
  show (if a.length + b.length ≤ sizeLine then _ else _) = _
  rw [if_pos (by rw [sizeLine_eq]; omega)]
theorem op_eqi {i j : Int} : opD .eq (.int i) (.int j) = some (.bl (decide (i = j))) := by rw [op_eq rfl rfl, eq_int]
theorem op_nei {i j : Int} : opD .ne (.int i) (.int j) = some (.bl (!decide (i = j))) := by rw [op_ne rfl rfl, eq_int]
theorem op_gti {i j : Int} : opD .gt (.int i) (.int j) = some (.bl (decide (j < i))) := rfl
theorem op_gei {i j : Int} : opD .ge (.int i) (.int j) = some (.bl (decide (j ≤ i))) := rfl
theorem op_lei {i j : Int} : opD .le (.int i) (.int j) = some (.bl (decide (i ≤ j))) := rfl
theorem op_lti {i j : Int} : opD .lt (.int i) (.int j) = some (.bl (decide (i < j))) := rfl
theorem rep1 {d : D} : ∀ n : Nat, (List.replicate n [d]).flatten = List.replicate n d
  | 0 => rfl
  | n + 1 => by rw [List.replicate_succ, List.flatten_cons, rep1 n]; rfl
theorem op_mul1 {d : D} {k : Int} (h0 : -1000 ≤ k) (h1 : k ≤ 1000) : opD .mul (.tup [d]) (.int k) = some (.tup (List.replicate k.toNat d)) := by
  show (if -1000 ≤ k ∧ k ≤ 1000 ∧ [d].length ≤ 1000 then some (D.tup (List.replicate k.toNat [d]).flatten) else none) = _
  rw [if_pos ⟨h0, h1, by simp⟩, rep1]
theorem op_mull {d : D} {k : Int} (h0 : -1000 ≤ k) (h1 : k ≤ 1000) : opD .mul (.lst [d]) (.int k) = some (.lst (List.replicate k.toNat d)) := by
  show (if -1000 ≤ k ∧ k ≤ 1000 ∧ [d].length ≤ 1000 then some (D.lst (List.replicate k.toNat [d]).flatten) else none) = _
  rw [if_pos ⟨h0, h1, by simp⟩, rep1]
theorem map_rep (n : Nat) (i : Int) : List.replicate n (D.int i) = (List.replicate n i).map D.int := by rw [List.map_replicate]
/-! ### loops and comprehensions -/
theorem compM {tg : Tg} {test : List Sl → M Bool} {elt : List Sl → M D} {σ : List Sl} (f : D → D) (t : D → Bool) (items : List D) (h : ∀ d ∈ items, ∃ σ', put tg d σ = some σ' ∧ test σ' = M.pure (t d) ∧ (t d = true → elt σ' = M.pure (f d))) :
    compL tg test elt σ items = M.pure ((items.filter t).map f) := by
  funext g
  exact comp_pure f t items fun d hd => by
    obtain ⟨σ', h1, h2, h3⟩ := h d hd
    exact ⟨σ', h1, ofM h2 g, fun e => ofM (h3 e) g⟩
theorem evt0 {Φ : Ph} {σ : List Sl} : evt Φ [] σ = M.pure true := by rw [evt]
/-- no test -/
theorem compM0 {Φ : Ph} {tg : Tg} {elt : List Sl → M D} {σ : List Sl} (f : D → D) (items : List D) (h : ∀ d ∈ items, ∃ σ', put tg d σ = some σ' ∧ elt σ' = M.pure (f d)) :
    compL tg (fun _ => M.pure true) elt σ items = M.pure (items.map f) := by
  rw [compM f (fun _ => true) items fun d hd => by
    obtain ⟨σ', h1, h2⟩ := h d hd
    exact ⟨σ', h1, rfl, fun _ => h2⟩, filter_true]
/-- as they stand in a run -/
theorem compT {Φ : Ph} {tg : Tg} {elt : E} {cs : List E} {σ : List Sl} (f : D → D) (t : D → Bool) (items : List D) (h : ∀ d ∈ items, ∃ σ', put tg d σ = some σ' ∧ evt Φ cs σ' = M.pure (t d) ∧ (t d = true → ev Φ elt σ' = M.pure (f d))) : compE Φ tg elt cs σ items = M.pure ((items.filter t).map f) := by
  unfold compE
  rw [compM f t items h]
  rfl
theorem compE0 {Φ : Ph} {tg : Tg} {elt : E} {σ : List Sl} (f : D → D) (items : List D) (h : ∀ d ∈ items, ∃ σ', put tg d σ = some σ' ∧ ev Φ elt σ' = M.pure (f d)) : compE Φ tg elt [] σ items = M.pure (items.map f) := by
  rw [compT f (fun _ => true) items fun d hd => by
    obtain ⟨σ', h1, h2⟩ := h d hd
    exact ⟨σ', h1, evt0, fun _ => h2⟩, filter_true]
theorem evt1 {Φ : Ph} {σ : List Sl} {c : E} {t : Bool} (h : ev Φ c σ = M.pure (.bl t)) : evt Φ [c] σ = M.pure t := by
  rw [evt, h]
  rfl
theorem loopM {body : List Sl → M Flow'} {tg : Tg} {tmp : List Nat} {α : Type} (S : α → List Sl) (f : α → D → α) (J : Nat → α → Prop) : ∀ (items : List D) (k : Nat) (a : α), J k a →
    (∀ (i : Nat) d a, items[i]? = some d → J (k + i) a → (∃ σ1 σ2, put tg d (S a) = some σ1 ∧ body σ1 = M.pure (.next σ2) ∧ clear tmp σ2 = S (f a d)) ∧ J (k + i + 1) (f a d)) →
    loopF body tg tmp items (S a) = M.pure (.next (S (items.foldl f a))) ∧ J (k + items.length) (items.foldl f a)
  | [], k, a, j, _ => ⟨rfl, j⟩
  | d :: r, k, a, j, h => by
    obtain ⟨⟨σ1, σ2, h1, h2, h3⟩, j1⟩ := h 0 d a rfl j
    have ih := loopM S f J r (k + 1) (f a d) j1 fun i x b hi hj => by
      have := h (i + 1) x b (by simpa using hi) (by rw [show k + (i + 1) = k + 1 + i by omega]; exact hj)
      rw [show k + (i + 1) + 1 = k + 1 + i + 1 by omega] at this
      exact this
    refine ⟨?_, ?_⟩
    · rw [loopF, h1, M.opt_some, M.pure_bind, h2, M.pure_bind]
      show loopF body tg tmp r (clear tmp σ2) = _
      rw [h3, ih.1]
      rfl
    · rw [List.length_cons, List.foldl_cons, show k + (r.length + 1) = k + 1 + r.length by omega]
      exact ih.2
/-! ### others, first_of, dropped -/
def oth (c : List Int) (s : Int) : List Int := c.set s.toNat (ge c s - 1)
theorem set_cut {α : Type} (x : α) : ∀ (l : List α) (k : Nat), k < l.length → l.take k ++ [x] ++ l.drop (k + 1) = l.set k x
  | a :: l, 0, _ => rfl
  | a :: l, k + 1, h => by
    show a :: (l.take k ++ [x] ++ l.drop (k + 1)) = a :: l.set k x
    rw [set_cut x l k (by simpa using h)]
theorem e8 {c : List Int} {s : Int} (h0 : 0 ≤ s) (h1 : s < c.length) (hc : c.length ≤ 1000) : Φ 8 [tI c, .int s] = M.pure (tI (oth c s)) := by
  obtain ⟨k, rfl⟩ := Int.eq_ofNat_of_zero_le h0
  show body (upto FG 8) fuel b8 0 [tI c, .int (k : Nat)] = _
  unfold b8
  have e : ((k : Nat) : Int) + 1 = ((k + 1 : Nat) : Int) := by omega
  simp only [b_body, q_var, q_cst, q_con, q_tup, q_lst, q_op, opX_p, q_chn, q_and, q_or, q_and1, q_and2, q_or1, q_or2, andX_t, andX_f, orX_t, orX_f, q_not, negX_b, q_neg, q_ife, iteE_t, iteE_f, q_idx, q_slc, q_evo0, q_evo1, q_call, q_callk, q_evk0, q_evk1, q_prim, q_isi, q_comp, q_at, q_in, q_get, q_get3, q_fld, q_res, res_p, q_nil, q_cons, consX_p, q_ite, q_rng, q_enum, q_zip,   s_nil, s_cons, seqX_n, seqX_r, seqX_x, seqX_b, seqX_c, s_asg, asgX_p, s_par, s_new, s_fz, s_clr, s_setix, s_augix, s_aug, s_app, s_ext, s_ife, iteX_t, iteX_f, s_for, s_whilL, s_newd0, s_newd1, s_setk, s_pop, s_par2, s_set2, set2X_n, s_ret, s_exp, s_raise, retD_r, retD_n, slot_z, slot_s, slotD_z, slotD_s, mlS_z, mlS_s, seqS_z, seqS_d, seqS_s, mdS_z, mdS_s, newS_l, fz_q, fzQ_l, fzQ_d, app_q, ext_q, set_q, get_q, getQ_l, put_q, putQ_d, it_e, it_1, it2_n, it2_c, put_n, put_t, puts_z, puts_c, clear_z, clear_c,   immS_z, immS_i, immS_u, immS_l, immS_d, M.pure_bind, M.fail_bind, M.exc_bind, M.opt_some, M.opt_none, List.set_cons_succ, List.set_cons_zero, List.map_cons, List.map_nil, List.cons_append, List.nil_append, List.replicate_succ, List.replicate_zero, List.length_cons, List.length_nil, Nat.reduceLT, Nat.reduceAdd, Nat.zero_lt_succ, Nat.lt_add_left_iff_pos, reduceIte, Option.bind_some, Option.map_some, truth_b, decide_true, decide_false, Bool.not_true, Bool.not_false, tail_ret, ix_at h0 h1, slOf, op_subi, op_addi, e, cut_to, cut_from]
  have hl := List.length_take_le k (c.map D.int)
  rw [op_addt (by rw [List.length_take, List.length_map, List.length_cons, List.length_nil]; omega)]
  simp only [b_body, q_var, q_cst, q_con, q_tup, q_lst, q_op, opX_p, q_chn, q_and, q_or, q_and1, q_and2, q_or1, q_or2, andX_t, andX_f, orX_t, orX_f, q_not, negX_b, q_neg, q_ife, iteE_t, iteE_f, q_idx, q_slc, q_evo0, q_evo1, q_call, q_callk, q_evk0, q_evk1, q_prim, q_isi, q_comp, q_at, q_in, q_get, q_get3, q_fld, q_res, res_p, q_nil, q_cons, consX_p, q_ite, q_rng, q_enum, q_zip,   s_nil, s_cons, seqX_n, seqX_r, seqX_x, seqX_b, seqX_c, s_asg, asgX_p, s_par, s_new, s_fz, s_clr, s_setix, s_augix, s_aug, s_app, s_ext, s_ife, iteX_t, iteX_f, s_for, s_whilL, s_newd0, s_newd1, s_setk, s_pop, s_par2, s_set2, set2X_n, s_ret, s_exp, s_raise, retD_r, retD_n, slot_z, slot_s, slotD_z, slotD_s, mlS_z, mlS_s, seqS_z, seqS_d, seqS_s, mdS_z, mdS_s, newS_l, fz_q, fzQ_l, fzQ_d, app_q, ext_q, set_q, get_q, getQ_l, put_q, putQ_d, it_e, it_1, it2_n, it2_c, put_n, put_t, puts_z, puts_c, clear_z, clear_c,   immS_z, immS_i, immS_u, immS_l, immS_d, M.pure_bind, M.fail_bind, M.exc_bind, M.opt_some, M.opt_none, List.set_cons_succ, List.set_cons_zero, List.map_cons, List.map_nil, List.cons_append, List.nil_append, List.replicate_succ, List.replicate_zero, List.length_cons, List.length_nil, Nat.reduceLT, Nat.reduceAdd, Nat.zero_lt_succ, Nat.lt_add_left_iff_pos, reduceIte, Option.bind_some, Option.map_some, truth_b, decide_true, decide_false, Bool.not_true, Bool.not_false, tail_ret]
  rw [op_addt (by rw [List.length_append, List.length_take, List.length_drop, List.length_map, List.length_cons, List.length_nil]; omega)]
  simp only [b_body, q_var, q_cst, q_con, q_tup, q_lst, q_op, opX_p, q_chn, q_and, q_or, q_and1, q_and2, q_or1, q_or2, andX_t, andX_f, orX_t, orX_f, q_not, negX_b, q_neg, q_ife, iteE_t, iteE_f, q_idx, q_slc, q_evo0, q_evo1, q_call, q_callk, q_evk0, q_evk1, q_prim, q_isi, q_comp, q_at, q_in, q_get, q_get3, q_fld, q_res, res_p, q_nil, q_cons, consX_p, q_ite, q_rng, q_enum, q_zip,   s_nil, s_cons, seqX_n, seqX_r, seqX_x, seqX_b, seqX_c, s_asg, asgX_p, s_par, s_new, s_fz, s_clr, s_setix, s_augix, s_aug, s_app, s_ext, s_ife, iteX_t, iteX_f, s_for, s_whilL, s_newd0, s_newd1, s_setk, s_pop, s_par2, s_set2, set2X_n, s_ret, s_exp, s_raise, retD_r, retD_n, slot_z, slot_s, slotD_z, slotD_s, mlS_z, mlS_s, seqS_z, seqS_d, seqS_s, mdS_z, mdS_s, newS_l, fz_q, fzQ_l, fzQ_d, app_q, ext_q, set_q, get_q, getQ_l, put_q, putQ_d, it_e, it_1, it2_n, it2_c, put_n, put_t, puts_z, puts_c, clear_z, clear_c,   immS_z, immS_i, immS_u, immS_l, immS_d, M.pure_bind, M.fail_bind, M.exc_bind, M.opt_some, M.opt_none, List.set_cons_succ, List.set_cons_zero, List.map_cons, List.map_nil, List.cons_append, List.nil_append, List.replicate_succ, List.replicate_zero, List.length_cons, List.length_nil, Nat.reduceLT, Nat.reduceAdd, Nat.zero_lt_succ, Nat.lt_add_left_iff_pos, reduceIte, Option.bind_some, Option.map_some, truth_b, decide_true, decide_false, Bool.not_true, Bool.not_false, tail_ret]
  rw [set_cut _ _ _ (by rw [List.length_map]; omega)]
  show M.pure (D.tup _) = M.pure (D.tup _)
  unfold oth
  rw [List.map_set]
  rfl
theorem e11 {m : Int} {r : D} {c : Int} (h0 : 1 ≤ m) (h1 : m ≤ 1000) : Φ 11 [.tup [.int m, r], .int c] = M.pure (tI (c :: List.replicate (m - 1).toNat 0)) := by
  show body (upto FG 11) fuel b11 0 [.tup [.int m, r], .int c] = _
  unfold b11
  have e : ixOf (.tup [.int m, r]) (.int 0) = some (.int m) := rfl
  simp only [b_body, q_var, q_cst, q_con, q_tup, q_lst, q_op, opX_p, q_chn, q_and, q_or, q_and1, q_and2, q_or1, q_or2, andX_t, andX_f, orX_t, orX_f, q_not, negX_b, q_neg, q_ife, iteE_t, iteE_f, q_idx, q_slc, q_evo0, q_evo1, q_call, q_callk, q_evk0, q_evk1, q_prim, q_isi, q_comp, q_at, q_in, q_get, q_get3, q_fld, q_res, res_p, q_nil, q_cons, consX_p, q_ite, q_rng, q_enum, q_zip,   s_nil, s_cons, seqX_n, seqX_r, seqX_x, seqX_b, seqX_c, s_asg, asgX_p, s_par, s_new, s_fz, s_clr, s_setix, s_augix, s_aug, s_app, s_ext, s_ife, iteX_t, iteX_f, s_for, s_whilL, s_newd0, s_newd1, s_setk, s_pop, s_par2, s_set2, set2X_n, s_ret, s_exp, s_raise, retD_r, retD_n, slot_z, slot_s, slotD_z, slotD_s, mlS_z, mlS_s, seqS_z, seqS_d, seqS_s, mdS_z, mdS_s, newS_l, fz_q, fzQ_l, fzQ_d, app_q, ext_q, set_q, get_q, getQ_l, put_q, putQ_d, it_e, it_1, it2_n, it2_c, put_n, put_t, puts_z, puts_c, clear_z, clear_c,   immS_z, immS_i, immS_u, immS_l, immS_d, M.pure_bind, M.fail_bind, M.exc_bind, M.opt_some, M.opt_none, List.set_cons_succ, List.set_cons_zero, List.map_cons, List.map_nil, List.cons_append, List.nil_append, List.replicate_succ, List.replicate_zero, List.length_cons, List.length_nil, Nat.reduceLT, Nat.reduceAdd, Nat.zero_lt_succ, Nat.lt_add_left_iff_pos, reduceIte, Option.bind_some, Option.map_some, truth_b, decide_true, decide_false, Bool.not_true, Bool.not_false, tail_ret, e, op_subi, op_mul1 (d := .int 0) (k := m - 1) (by omega) (by omega)]
  rw [op_addt (by rw [List.length_replicate, List.length_cons, List.length_nil]; omega)]
  simp only [b_body, q_var, q_cst, q_con, q_tup, q_lst, q_op, opX_p, q_chn, q_and, q_or, q_and1, q_and2, q_or1, q_or2, andX_t, andX_f, orX_t, orX_f, q_not, negX_b, q_neg, q_ife, iteE_t, iteE_f, q_idx, q_slc, q_evo0, q_evo1, q_call, q_callk, q_evk0, q_evk1, q_prim, q_isi, q_comp, q_at, q_in, q_get, q_get3, q_fld, q_res, res_p, q_nil, q_cons, consX_p, q_ite, q_rng, q_enum, q_zip,   s_nil, s_cons, seqX_n, seqX_r, seqX_x, seqX_b, seqX_c, s_asg, asgX_p, s_par, s_new, s_fz, s_clr, s_setix, s_augix, s_aug, s_app, s_ext, s_ife, iteX_t, iteX_f, s_for, s_whilL, s_newd0, s_newd1, s_setk, s_pop, s_par2, s_set2, set2X_n, s_ret, s_exp, s_raise, retD_r, retD_n, slot_z, slot_s, slotD_z, slotD_s, mlS_z, mlS_s, seqS_z, seqS_d, seqS_s, mdS_z, mdS_s, newS_l, fz_q, fzQ_l, fzQ_d, app_q, ext_q, set_q, get_q, getQ_l, put_q, putQ_d, it_e, it_1, it2_n, it2_c, put_n, put_t, puts_z, puts_c, clear_z, clear_c,   immS_z, immS_i, immS_u, immS_l, immS_d, M.pure_bind, M.fail_bind, M.exc_bind, M.opt_some, M.opt_none, List.set_cons_succ, List.set_cons_zero, List.map_cons, List.map_nil, List.cons_append, List.nil_append, List.replicate_succ, List.replicate_zero, List.length_cons, List.length_nil, Nat.reduceLT, Nat.reduceAdd, Nat.zero_lt_succ, Nat.lt_add_left_iff_pos, reduceIte, Option.bind_some, Option.map_some, truth_b, decide_true, decide_false, Bool.not_true, Bool.not_false, tail_ret, map_rep]
  rfl
def drp (c : List Int) (s : Int) : List Int := (ge (oth c s) 0 + 1) :: (oth c s).drop 1
theorem oth_len {c : List Int} {s : Int} : (oth c s).length = c.length := by unfold oth; rw [List.length_set]
theorem e14 {c : List Int} {s : Int} (h0 : 0 ≤ s) (h1 : s < c.length) (hc : c.length ≤ 1000) : Φ 14 [tI c, .int s] = M.pure (tI (drp c s)) := by
  show body (upto FG 14) fuel b14 1 [tI c, .int s] = _
  unfold b14
  have e : upto FG 14 8 [tI c, .int s] = M.pure (tI (oth c s)) := by
    rw [upto_lt (by decide)]
    exact e8 h0 h1 hc
  have e1 : (some (1 : Int)) = some ((1 : Nat) : Int) := rfl
  simp only [b_body, q_var, q_cst, q_con, q_tup, q_lst, q_op, opX_p, q_chn, q_and, q_or, q_and1, q_and2, q_or1, q_or2, andX_t, andX_f, orX_t, orX_f, q_not, negX_b, q_neg, q_ife, iteE_t, iteE_f, q_idx, q_slc, q_evo0, q_evo1, q_call, q_callk, q_evk0, q_evk1, q_prim, q_isi, q_comp, q_at, q_in, q_get, q_get3, q_fld, q_res, res_p, q_nil, q_cons, consX_p, q_ite, q_rng, q_enum, q_zip,   s_nil, s_cons, seqX_n, seqX_r, seqX_x, seqX_b, seqX_c, s_asg, asgX_p, s_par, s_new, s_fz, s_clr, s_setix, s_augix, s_aug, s_app, s_ext, s_ife, iteX_t, iteX_f, s_for, s_whilL, s_newd0, s_newd1, s_setk, s_pop, s_par2, s_set2, set2X_n, s_ret, s_exp, s_raise, retD_r, retD_n, slot_z, slot_s, slotD_z, slotD_s, mlS_z, mlS_s, seqS_z, seqS_d, seqS_s, mdS_z, mdS_s, newS_l, fz_q, fzQ_l, fzQ_d, app_q, ext_q, set_q, get_q, getQ_l, put_q, putQ_d, it_e, it_1, it2_n, it2_c, put_n, put_t, puts_z, puts_c, clear_z, clear_c,   immS_z, immS_i, immS_u, immS_l, immS_d, M.pure_bind, M.fail_bind, M.exc_bind, M.opt_some, M.opt_none, List.set_cons_succ, List.set_cons_zero, List.map_cons, List.map_nil, List.cons_append, List.nil_append, List.replicate_succ, List.replicate_zero, List.length_cons, List.length_nil, Nat.reduceLT, Nat.reduceAdd, Nat.zero_lt_succ, Nat.lt_add_left_iff_pos, reduceIte, Option.bind_some, Option.map_some, truth_b, decide_true, decide_false, Bool.not_true, Bool.not_false, tail_ret, e, ix_at (l := oth c s) (i := 0) (by omega) (by rw [oth_len]; omega), slOf, op_addi, e1, cut_from]
  rw [op_addt (by rw [List.length_drop, List.length_map, oth_len, List.length_cons, List.length_nil]; omega)]
  simp only [b_body, q_var, q_cst, q_con, q_tup, q_lst, q_op, opX_p, q_chn, q_and, q_or, q_and1, q_and2, q_or1, q_or2, andX_t, andX_f, orX_t, orX_f, q_not, negX_b, q_neg, q_ife, iteE_t, iteE_f, q_idx, q_slc, q_evo0, q_evo1, q_call, q_callk, q_evk0, q_evk1, q_prim, q_isi, q_comp, q_at, q_in, q_get, q_get3, q_fld, q_res, res_p, q_nil, q_cons, consX_p, q_ite, q_rng, q_enum, q_zip,   s_nil, s_cons, seqX_n, seqX_r, seqX_x, seqX_b, seqX_c, s_asg, asgX_p, s_par, s_new, s_fz, s_clr, s_setix, s_augix, s_aug, s_app, s_ext, s_ife, iteX_t, iteX_f, s_for, s_whilL, s_newd0, s_newd1, s_setk, s_pop, s_par2, s_set2, set2X_n, s_ret, s_exp, s_raise, retD_r, retD_n, slot_z, slot_s, slotD_z, slotD_s, mlS_z, mlS_s, seqS_z, seqS_d, seqS_s, mdS_z, mdS_s, newS_l, fz_q, fzQ_l, fzQ_d, app_q, ext_q, set_q, get_q, getQ_l, put_q, putQ_d, it_e, it_1, it2_n, it2_c, put_n, put_t, puts_z, puts_c, clear_z, clear_c,   immS_z, immS_i, immS_u, immS_l, immS_d, M.pure_bind, M.fail_bind, M.exc_bind, M.opt_some, M.opt_none, List.set_cons_succ, List.set_cons_zero, List.map_cons, List.map_nil, List.cons_append, List.nil_append, List.replicate_succ, List.replicate_zero, List.length_cons, List.length_nil, Nat.reduceLT, Nat.reduceAdd, Nat.zero_lt_succ, Nat.lt_add_left_iff_pos, reduceIte, Option.bind_some, Option.map_some, truth_b, decide_true, decide_false, Bool.not_true, Bool.not_false, tail_ret]
  unfold drp
  rw [← List.map_drop]
  rfl
/-! ### is_possible -/
def poss (c : List Int) (r : Rl) : Bool := !decide (ge c r.s = 0) && ((decide (r.n = 0) || decide (0 < ge (oth c r.s) r.n)) && !(r.b.any fun x => decide (0 < ge (oth c r.s) x)))
abbrev Okr (m : Int) (r : Rl) : Prop := Rule m r.s r.t r.n r.b r.e
theorem any_map (p : Int → Bool) (l : List Int) : prD .any [.lst (l.map fun d => D.bl (p d))] = some (.bl (l.any p)) := by
  show (asBools (l.map fun d => D.bl (p d))).map (fun bs => D.bl (bs.any id)) = _
  have : ∀ l : List Int, asBools (l.map fun d => D.bl (p d)) = some (l.map p) := fun l => by
    induction l with
    | nil => rfl
    | cons d l ih =>
      show (asBools (l.map fun d => D.bl (p d))).map (p d :: ·) = _
      rw [ih]
      rfl
  rw [this]
  show some (D.bl ((l.map p).any id)) = _
  rw [List.any_map]
  rfl
theorem e12 {c : List Int} {r : Rl} {m : Int} (hr : Okr m r) (hm : (c.length : Int) = m) (hc : m ≤ 1000) : Φ 12 [tI c, rD r] = M.pure (.bl (poss c r)) := by
  show body (upto FG 12) fuel b12 7 [tI c, rD r] = _
  unfold b12 rD
  have e : upto FG 12 8 [tI c, .int r.s] = M.pure (tI (oth c r.s)) := by
    rw [upto_lt (by decide)]
    exact e8 hr.hs.1 (by have := hr.hs.2; omega) (by omega)
  have i1 := ix_at (l := c) (i := r.s) hr.hs.1 (by have := hr.hs.2; omega)
  have i2 := ix_at (l := oth c r.s) (i := r.n) hr.hnd.1 (by have := hr.hnd.2; rw [oth_len]; omega)
  have w : walkE (tI r.b) = some (r.b.map D.int) := rfl
  unfold poss
  by_cases h1 : ge c r.s = 0
  · simp only [b_body, q_var, q_cst, q_con, q_tup, q_lst, q_op, opX_p, q_chn, q_and, q_or, q_and1, q_and2, q_or1, q_or2, andX_t, andX_f, orX_t, orX_f, q_not, negX_b, q_neg, q_ife, iteE_t, iteE_f, q_idx, q_slc, q_evo0, q_evo1, q_call, q_callk, q_evk0, q_evk1, q_prim, q_isi, q_comp, q_at, q_in, q_get, q_get3, q_fld, q_res, res_p, q_nil, q_cons, consX_p, q_ite, q_rng, q_enum, q_zip,   s_nil, s_cons, seqX_n, seqX_r, seqX_x, seqX_b, seqX_c, s_asg, asgX_p, s_par, s_new, s_fz, s_clr, s_setix, s_augix, s_aug, s_app, s_ext, s_ife, iteX_t, iteX_f, s_for, s_whilL, s_newd0, s_newd1, s_setk, s_pop, s_par2, s_set2, set2X_n, s_ret, s_exp, s_raise, retD_r, retD_n, slot_z, slot_s, slotD_z, slotD_s, mlS_z, mlS_s, seqS_z, seqS_d, seqS_s, mdS_z, mdS_s, newS_l, fz_q, fzQ_l, fzQ_d, app_q, ext_q, set_q, get_q, getQ_l, put_q, putQ_d, it_e, it_1, it2_n, it2_c, put_n, put_t, puts_z, puts_c, clear_z, clear_c,   immS_z, immS_i, immS_u, immS_l, immS_d, M.pure_bind, M.fail_bind, M.exc_bind, M.opt_some, M.opt_none, List.set_cons_succ, List.set_cons_zero, List.map_cons, List.map_nil, List.cons_append, List.nil_append, List.replicate_succ, List.replicate_zero, List.length_cons, List.length_nil, Nat.reduceLT, Nat.reduceAdd, Nat.zero_lt_succ, Nat.lt_add_left_iff_pos, reduceIte, Option.bind_some, Option.map_some, truth_b, decide_true, decide_false, Bool.not_true, Bool.not_false, tail_ret, i1, op_eqi, h1, truth_b, decide_true, Bool.not_true, Bool.false_and]
  · have cm : compE (upto FG 12) (.n 8) (.op .gt (.idx (.var 2) (.var 8)) (.cst (.int 0))) [] [.imm (tI c), .imm (.tup [.int r.s, .int r.t, .int r.n, tI r.b, tI r.e]), .imm (tI (oth c r.s)), .imm (.int r.s), .imm (.int r.t), .imm (.int r.n), .imm (tI r.b), .imm (tI r.e), .un] (r.b.map D.int) = M.pure ((r.b.map fun x => D.bl (decide (0 < ge (oth c r.s) x)))) := by
      rw [compE0 (fun d => match d with | .int x => D.bl (decide (0 < ge (oth c r.s) x)) | _ => .non) (r.b.map D.int) fun d hd => by
        obtain ⟨x, hx, rfl⟩ := List.mem_map.mp hd
        have hb := hr.hlb x hx
        refine ⟨_, put_n (by simp), ?_⟩
        simp only [b_body, q_var, q_cst, q_con, q_tup, q_lst, q_op, opX_p, q_chn, q_and, q_or, q_and1, q_and2, q_or1, q_or2, andX_t, andX_f, orX_t, orX_f, q_not, negX_b, q_neg, q_ife, iteE_t, iteE_f, q_idx, q_slc, q_evo0, q_evo1, q_call, q_callk, q_evk0, q_evk1, q_prim, q_isi, q_comp, q_at, q_in, q_get, q_get3, q_fld, q_res, res_p, q_nil, q_cons, consX_p, q_ite, q_rng, q_enum, q_zip,   s_nil, s_cons, seqX_n, seqX_r, seqX_x, seqX_b, seqX_c, s_asg, asgX_p, s_par, s_new, s_fz, s_clr, s_setix, s_augix, s_aug, s_app, s_ext, s_ife, iteX_t, iteX_f, s_for, s_whilL, s_newd0, s_newd1, s_setk, s_pop, s_par2, s_set2, set2X_n, s_ret, s_exp, s_raise, retD_r, retD_n, slot_z, slot_s, slotD_z, slotD_s, mlS_z, mlS_s, seqS_z, seqS_d, seqS_s, mdS_z, mdS_s, newS_l, fz_q, fzQ_l, fzQ_d, app_q, ext_q, set_q, get_q, getQ_l, put_q, putQ_d, it_e, it_1, it2_n, it2_c, put_n, put_t, puts_z, puts_c, clear_z, clear_c,   immS_z, immS_i, immS_u, immS_l, immS_d, M.pure_bind, M.fail_bind, M.exc_bind, M.opt_some, M.opt_none, List.set_cons_succ, List.set_cons_zero, List.map_cons, List.map_nil, List.cons_append, List.nil_append, List.replicate_succ, List.replicate_zero, List.length_cons, List.length_nil, Nat.reduceLT, Nat.reduceAdd, Nat.zero_lt_succ, Nat.lt_add_left_iff_pos, reduceIte, Option.bind_some, Option.map_some, truth_b, decide_true, decide_false, Bool.not_true, Bool.not_false, tail_ret, ix_at (l := oth c r.s) (i := x) (by omega) (by rw [oth_len]; omega), op_gti], List.map_map]
      rfl
    have d1 : decide (ge c r.s = 0) = false := decide_eq_false h1
    cases d2 : decide (r.n = 0) <;> cases d3 : decide (0 < ge (oth c r.s) r.n) <;> simp only [b_body, q_var, q_cst, q_con, q_tup, q_lst, q_op, opX_p, q_chn, q_and, q_or, q_and1, q_and2, q_or1, q_or2, andX_t, andX_f, orX_t, orX_f, q_not, negX_b, q_neg, q_ife, iteE_t, iteE_f, q_idx, q_slc, q_evo0, q_evo1, q_call, q_callk, q_evk0, q_evk1, q_prim, q_isi, q_comp, q_at, q_in, q_get, q_get3, q_fld, q_res, res_p, q_nil, q_cons, consX_p, q_ite, q_rng, q_enum, q_zip,   s_nil, s_cons, seqX_n, seqX_r, seqX_x, seqX_b, seqX_c, s_asg, asgX_p, s_par, s_new, s_fz, s_clr, s_setix, s_augix, s_aug, s_app, s_ext, s_ife, iteX_t, iteX_f, s_for, s_whilL, s_newd0, s_newd1, s_setk, s_pop, s_par2, s_set2, set2X_n, s_ret, s_exp, s_raise, retD_r, retD_n, slot_z, slot_s, slotD_z, slotD_s, mlS_z, mlS_s, seqS_z, seqS_d, seqS_s, mdS_z, mdS_s, newS_l, fz_q, fzQ_l, fzQ_d, app_q, ext_q, set_q, get_q, getQ_l, put_q, putQ_d, it_e, it_1, it2_n, it2_c, put_n, put_t, puts_z, puts_c, clear_z, clear_c,   immS_z, immS_i, immS_u, immS_l, immS_d, M.pure_bind, M.fail_bind, M.exc_bind, M.opt_some, M.opt_none, List.set_cons_succ, List.set_cons_zero, List.map_cons, List.map_nil, List.cons_append, List.nil_append, List.replicate_succ, List.replicate_zero, List.length_cons, List.length_nil, Nat.reduceLT, Nat.reduceAdd, Nat.zero_lt_succ, Nat.lt_add_left_iff_pos, reduceIte, Option.bind_some, Option.map_some, truth_b, decide_true, decide_false, Bool.not_true, Bool.not_false, tail_ret, i1, op_eqi, d1, d2, d3, truth_b, e, i2, op_gti, w, cm, any_map, Bool.not_false, Bool.true_and, Bool.false_or, Bool.true_or, Bool.or_true, Bool.or_self, Bool.false_and]
end GL
namespace GL
open PySem PySem.Spec L2 MC
theorem ix_l {l : List Int} {i : Int} (h0 : 0 ≤ i) (h1 : i < l.length) : ixOf (.lst (l.map D.int)) (.int i) = some (.int (ge l i)) := ix_at h0 h1
theorem aug_add {a b : Int} : augI .add (.int a) (.int b) = some (.int (a + b)) := rfl
theorem aug_sub {a b : Int} : augI .sub (.int a) (.int b) = some (.int (a - b)) := rfl
/-! ### typed loops -/
theorem M_inj {α : Type} {a b : α} (h : (M.pure a : M α) = M.pure b) : a = b := by
  have := congrFun h []
  injection this with this
  injection this with this
  injection this
theorem it2_inv {tmp : List Nat} {m : M Flow'} {σ : List Sl} (h : it2 tmp m = M.pure σ) (g : G) : ∃ f g', m g = some (.ok f, g') ∧ ((∃ σ', f = .next σ' ∧ clear tmp σ' = σ) ∨ (∃ σ', f = .cnt σ' ∧ clear tmp σ' = σ)) ∧ g' = g := by
  have := congrFun h g
  rcases bind_some this with ⟨c, _, z⟩ | ⟨f, g1, h1, h2⟩
  · cases z
  refine ⟨f, g1, h1, ?_⟩
  cases f with
  | next σ' =>
    obtain ⟨e1, e2⟩ := pure_some h2
    cases e1
    exact ⟨.inl ⟨σ', rfl, rfl⟩, e2.symm⟩
  | cnt σ' =>
    obtain ⟨e1, e2⟩ := pure_some h2
    cases e1
    exact ⟨.inr ⟨σ', rfl, rfl⟩, e2.symm⟩
  | ret d => cases h2
  | brk σ' => cases h2
theorem loopT {Φ : Ph} {fuel : Nat} {tg : Tg} {b : List S} {tmp : List Nat} {α β : Type} (emb : β → D) (S : α → List Sl) (f : α → β → α) (J : Nat → α → Prop) : ∀ (L : List β) (k : Nat) (a : α), J k a →
    (∀ (i : Nat) x a, L[i]? = some x → J (k + i) a → itE Φ fuel tg b tmp (emb x) (S a) = M.pure (S (f a x)) ∧ J (k + i + 1) (f a x)) →
    loopE Φ fuel tg b tmp (L.map emb) (S a) = M.pure (.next (S (L.foldl f a))) ∧ J (k + L.length) (L.foldl f a)
  | [], k, a, j, _ => ⟨rfl, j⟩
  | d :: r, k, a, j, h => by
    obtain ⟨h1, j1⟩ := h 0 d a rfl j
    have ih := loopT emb S f J r (k + 1) (f a d) j1 fun i x b hi hj => by
      have := h (i + 1) x b (by simpa using hi) (by rw [show k + (i + 1) = k + 1 + i by omega]; exact hj)
      rw [show k + (i + 1) + 1 = k + 1 + i + 1 by omega] at this
      exact this
    refine ⟨?_, ?_⟩
    · funext g
      unfold loopE at ih ⊢
      rw [List.map_cons, loopF]
      cases hp : put tg (emb d) (S a) with
      | none =>
        have := congrFun h1 g
        unfold itE at this
        rw [hp] at this
        cases this
      | some σ1 =>
        have h2 : it2 tmp (exs Φ fuel b σ1) = M.pure (S (f a d)) := by
          unfold itE at h1
          rw [hp] at h1
          exact h1
        obtain ⟨fl, g', e1, e2, rfl⟩ := it2_inv h2 g
        rw [M.opt_some, M.pure_bind, bind_ok e1]
        rcases e2 with ⟨σ', rfl, e2⟩ | ⟨σ', rfl, e2⟩
        · show loopF _ tg tmp _ (clear tmp σ') g' = _
          rw [e2, ih.1]
          rfl
        · show loopF _ tg tmp _ (clear tmp σ') g' = _
          rw [e2, ih.1]
          rfl
    · rw [List.length_cons, List.foldl_cons, show k + (r.length + 1) = k + 1 + r.length by omega]
      exact ih.2
def irange (lo hi : Int) : List Int := (List.range (hi - lo).toNat).map fun i => lo + ((i : Nat) : Int)
theorem range_map (lo hi : Int) : rangeD lo hi = (irange lo hi).map D.int := by
  unfold rangeD irange
  rw [List.map_map]
  rfl
theorem mem_irange {lo hi x : Int} : x ∈ irange lo hi ↔ lo ≤ x ∧ x < hi := by
  unfold irange
  rw [List.mem_map]
  constructor
  · rintro ⟨i, hi, rfl⟩
    have := List.mem_range.mp hi
    omega
  · intro h
    exact ⟨(x - lo).toNat, List.mem_range.mpr (by omega), by omega⟩
theorem enum_map {β : Type} (emb : β → D) : ∀ (l : List β) (k : Nat), enumFrom k (l.map emb) = (l.zipIdx k).map fun p => .tup [.int (p.2 : Nat), emb p.1]
  | [], _ => rfl
  | x :: l, k => by
    rw [List.map_cons, List.zipIdx_cons, List.map_cons, ← enum_map emb l (k + 1)]
    rfl
theorem foldl_app {α β : Type} (p : β → Bool) (g : β → α) : ∀ (L : List β) (a : List α), L.foldl (fun l x => if p x then l ++ [g x] else l) a = a ++ (L.filter p).map g
  | [], a => by simp
  | x :: L, a => by
    rw [List.foldl_cons, foldl_app p g L]
    cases h : p x with
    | true => rw [List.filter_cons_of_pos h]; simp
    | false => rw [List.filter_cons_of_neg (by rw [h]; exact Bool.false_ne_true)]; simp
/-! ### performed -/
def bump (l : List Int) (i x : Int) : List Int := l.set i.toNat (ge l i + x)
theorem bump_len {l : List Int} {i x : Int} : (bump l i x).length = l.length := by unfold bump; rw [List.length_set]
def spread (e : List Int) (l : List (Int × Nat)) (a : List Int) : List Int := l.foldl (fun a p => bump a (ge e p.2) p.1) a
theorem spread_len (e : List Int) : ∀ (l : List (Int × Nat)) (a : List Int), (spread e l a).length = a.length
  | [], a => rfl
  | p :: l, a => by
    show (spread e l (bump a (ge e p.2) p.1)).length = _
    rw [spread_len e l, bump_len]
def zeros (n : Nat) : List Int := List.replicate n 0
def perf (c : List Int) (r : Rl) : List Int := bump (spread r.e (oth c r.s).zipIdx (zeros c.length)) r.t 1
theorem ge_mem {l : List Int} {i : Int} (h0 : 0 ≤ i) (h1 : i < l.length) : ge l i ∈ l := by
  unfold ge
  rw [List.getD_eq_getElem?_getD, List.getElem?_eq_getElem (by omega)]
  exact List.getElem_mem _
theorem e13 {c : List Int} {r : Rl} {m : Int} (hr : Okr m r) (hm : (c.length : Int) = m) (hc : m ≤ 1000) : Φ 13 [tI c, rD r] = M.pure (tI (perf c r)) := by
  show body (upto FG 13) fuel b13 8 [tI c, rD r] = _
  unfold b13 rD
  have e : upto FG 13 8 [tI c, .int r.s] = M.pure (tI (oth c r.s)) := by
    rw [upto_lt (by decide)]
    exact e8 hr.hs.1 (by have := hr.hs.2; omega) (by omega)
  have pl : MC.prD .len [tI c] = some (.int c.length) := by
    show some (D.int ((c.map D.int).length : Nat)) = _
    rw [List.length_map]
  have wl : (walkL (tI (oth c r.s))).map (enumFrom 0) = some ((oth c r.s).zipIdx.map fun p => .tup [.int (p.2 : Nat), .int p.1]) := by
    show some (enumFrom 0 ((oth c r.s).map D.int)) = _
    rw [enum_map]
  have L := (loopT (Φ := upto FG 13) (fuel := fuel) (tg := .t [.n 8, .n 9]) (b := [.augix 2 .add (.idx (.var 7) (.var 8)) (.var 9)]) (tmp := [8, 9]) (fun p : Int × Nat => .tup [.int (p.2 : Nat), .int p.1])
    (fun a : List Int => [.imm (tI c), .imm (.tup [.int r.s, .int r.t, .int r.n, tI r.b, tI r.e]), .ml (a.map D.int), .imm (.int r.s), .imm (.int r.t), .imm (.int r.n), .imm (tI r.b), .imm (tI r.e), .un, .un]) (fun a p => bump a (ge r.e p.2) p.1) (fun _ a => a.length = c.length)
    (oth c r.s).zipIdx 0 (zeros c.length) (by unfold zeros; rw [List.length_replicate]) fun i p a hi ha => by
      have hi' := (List.getElem?_eq_some_iff.mp hi).1
      rw [List.length_zipIdx, oth_len] at hi'
      have hp : p.2 = i := by
        rw [List.getElem?_zipIdx] at hi
        obtain ⟨x, _, hx⟩ := Option.map_eq_some_iff.mp hi
        rw [← hx]
        simp
      have hle := hr.len
      have h1 := ix_at (l := r.e) (i := (p.2 : Nat)) (by omega) (by omega)
      have h2 := hr.hle _ (ge_mem (l := r.e) (i := (p.2 : Nat)) (by omega) (by omega))
      refine ⟨?_, by rw [bump_len]; exact ha⟩
      simp only [b_body, q_var, q_cst, q_con, q_tup, q_lst, q_op, opX_p, q_chn, q_and, q_or, q_and1, q_and2, q_or1, q_or2, andX_t, andX_f, orX_t, orX_f, q_not, negX_b, q_neg, q_ife, iteE_t, iteE_f, q_idx, q_slc, q_evo0, q_evo1, q_call, q_callk, q_evk0, q_evk1, q_prim, q_isi, q_comp, q_at, q_in, q_get, q_get3, q_fld, q_res, res_p, q_nil, q_cons, consX_p, q_ite, q_rng, q_enum, q_zip,   s_nil, s_cons, seqX_n, seqX_r, seqX_x, seqX_b, seqX_c, s_asg, asgX_p, s_par, s_new, s_fz, s_clr, s_setix, s_augix, s_aug, s_app, s_ext, s_ife, iteX_t, iteX_f, s_for, s_whilL, s_newd0, s_newd1, s_setk, s_pop, s_par2, s_set2, set2X_n, s_ret, s_exp, s_raise, retD_r, retD_n, slot_z, slot_s, slotD_z, slotD_s, mlS_z, mlS_s, seqS_z, seqS_d, seqS_s, mdS_z, mdS_s, newS_l, fz_q, fzQ_l, fzQ_d, app_q, ext_q, set_q, get_q, getQ_l, put_q, putQ_d, it_e, it_1, it2_n, it2_c, put_n, put_t, puts_z, puts_c, clear_z, clear_c,   immS_z, immS_i, immS_u, immS_l, immS_d, M.pure_bind, M.fail_bind, M.exc_bind, M.opt_some, M.opt_none, List.set_cons_succ, List.set_cons_zero, List.map_cons, List.map_nil, List.cons_append, List.nil_append, List.replicate_succ, List.replicate_zero, List.length_cons, List.length_nil, Nat.reduceLT, Nat.reduceAdd, Nat.zero_lt_succ, Nat.lt_add_left_iff_pos, reduceIte, Option.bind_some, Option.map_some, truth_b, decide_true, decide_false, Bool.not_true, Bool.not_false, tail_ret, h1, ix_l (l := a) (i := ge r.e (p.2 : Nat)) h2.1 (by omega), aug_add, setQ_l (l := a.map D.int) (j := ge r.e (p.2 : Nat)) h2.1 (by rw [List.length_map]; omega)]
      unfold bump
      rw [List.map_set]).1
  have lz : (spread r.e (oth c r.s).zipIdx (zeros c.length)).length = c.length := by rw [spread_len]; unfold zeros; rw [List.length_replicate]
  have ht := hr.ht
  have em := op_mull (d := .int 0) (k := c.length) (by omega) (by omega)
  rw [Int.toNat_natCast, map_rep] at em
  simp only [b_body, q_var, q_cst, q_con, q_tup, q_lst, q_op, opX_p, q_chn, q_and, q_or, q_and1, q_and2, q_or1, q_or2, andX_t, andX_f, orX_t, orX_f, q_not, negX_b, q_neg, q_ife, iteE_t, iteE_f, q_idx, q_slc, q_evo0, q_evo1, q_call, q_callk, q_evk0, q_evk1, q_prim, q_isi, q_comp, q_at, q_in, q_get, q_get3, q_fld, q_res, res_p, q_nil, q_cons, consX_p, q_ite, q_rng, q_enum, q_zip,   s_nil, s_cons, seqX_n, seqX_r, seqX_x, seqX_b, seqX_c, s_asg, asgX_p, s_par, s_new, s_fz, s_clr, s_setix, s_augix, s_aug, s_app, s_ext, s_ife, iteX_t, iteX_f, s_for, s_whilL, s_newd0, s_newd1, s_setk, s_pop, s_par2, s_set2, set2X_n, s_ret, s_exp, s_raise, retD_r, retD_n, slot_z, slot_s, slotD_z, slotD_s, mlS_z, mlS_s, seqS_z, seqS_d, seqS_s, mdS_z, mdS_s, newS_l, fz_q, fzQ_l, fzQ_d, app_q, ext_q, set_q, get_q, getQ_l, put_q, putQ_d, it_e, it_1, it2_n, it2_c, put_n, put_t, puts_z, puts_c, clear_z, clear_c,   immS_z, immS_i, immS_u, immS_l, immS_d, M.pure_bind, M.fail_bind, M.exc_bind, M.opt_some, M.opt_none, List.set_cons_succ, List.set_cons_zero, List.map_cons, List.map_nil, List.cons_append, List.nil_append, List.replicate_succ, List.replicate_zero, List.length_cons, List.length_nil, Nat.reduceLT, Nat.reduceAdd, Nat.zero_lt_succ, Nat.lt_add_left_iff_pos, reduceIte, Option.bind_some, Option.map_some, truth_b, decide_true, decide_false, Bool.not_true, Bool.not_false, tail_ret, pl, em, e, wl]
  rw [show List.replicate c.length (0 : Int) = zeros c.length from rfl]
  rw [L]
  show (M.bind (seqX _ _ _ (M.pure (Flow'.next [_, _, .ml ((spread r.e (oth c r.s).zipIdx (zeros c.length)).map D.int), _, _, _, _, _, _, _]))) retD) = _
  simp only [b_body, q_var, q_cst, q_con, q_tup, q_lst, q_op, opX_p, q_chn, q_and, q_or, q_and1, q_and2, q_or1, q_or2, andX_t, andX_f, orX_t, orX_f, q_not, negX_b, q_neg, q_ife, iteE_t, iteE_f, q_idx, q_slc, q_evo0, q_evo1, q_call, q_callk, q_evk0, q_evk1, q_prim, q_isi, q_comp, q_at, q_in, q_get, q_get3, q_fld, q_res, res_p, q_nil, q_cons, consX_p, q_ite, q_rng, q_enum, q_zip,   s_nil, s_cons, seqX_n, seqX_r, seqX_x, seqX_b, seqX_c, s_asg, asgX_p, s_par, s_new, s_fz, s_clr, s_setix, s_augix, s_aug, s_app, s_ext, s_ife, iteX_t, iteX_f, s_for, s_whilL, s_newd0, s_newd1, s_setk, s_pop, s_par2, s_set2, set2X_n, s_ret, s_exp, s_raise, retD_r, retD_n, slot_z, slot_s, slotD_z, slotD_s, mlS_z, mlS_s, seqS_z, seqS_d, seqS_s, mdS_z, mdS_s, newS_l, fz_q, fzQ_l, fzQ_d, app_q, ext_q, set_q, get_q, getQ_l, put_q, putQ_d, it_e, it_1, it2_n, it2_c, put_n, put_t, puts_z, puts_c, clear_z, clear_c,   immS_z, immS_i, immS_u, immS_l, immS_d, M.pure_bind, M.fail_bind, M.exc_bind, M.opt_some, M.opt_none, List.set_cons_succ, List.set_cons_zero, List.map_cons, List.map_nil, List.cons_append, List.nil_append, List.replicate_succ, List.replicate_zero, List.length_cons, List.length_nil, Nat.reduceLT, Nat.reduceAdd, Nat.zero_lt_succ, Nat.lt_add_left_iff_pos, reduceIte, Option.bind_some, Option.map_some, truth_b, decide_true, decide_false, Bool.not_true, Bool.not_false, tail_ret, ix_l (l := spread r.e (oth c r.s).zipIdx (zeros c.length)) (i := r.t) ht.1 (by omega), aug_add, setQ_l (l := (spread r.e (oth c r.s).zipIdx (zeros c.length)).map D.int) (j := r.t) ht.1 (by rw [List.length_map]; omega)]
  show M.pure (D.tup _) = M.pure (D.tup _)
  unfold perf bump
  rw [List.map_set]
end GL
namespace GL
open PySem PySem.Spec L2 MC
/-! ### moves -/
abbrev Mv := (Str × Int) × List Int
def mvD (x : Mv) : D := .tup [.tup [.str x.1.1, .int x.1.2], tI x.2]
def mDrop (c : List Int) (s : Int) : Mv := (("drop", s), drp c s)
def mRule (c : List Int) (p : Rl × Nat) : Mv := (("rule", (p.2 : Int)), perf c p.1)
def mvs (m : Int) (rs : List Rl) (c : List Int) : List Mv :=
  ((irange 1 m).filter fun s => decide (0 < ge c s)).map (mDrop c) ++ (rs.zipIdx.filter fun p => poss c p.1).map (mRule c)
def pD (m : Int) (rs : List Rl) : D := .tup [.int m, .tup (rs.map rD)]
theorem irange_len {lo hi : Int} : (irange lo hi).length = (hi - lo).toNat := by unfold irange; rw [List.length_map, List.length_range]
theorem walk_r2 {i j : Int} (h0 : 0 ≤ i) (h1 : i ≤ 1000) (h2 : 0 ≤ j) (h3 : j ≤ 100000) : walkR [.int i, .int j] = some ((irange i j).map D.int) := by
  show (if (-lim62 ≤ i ∧ i < lim62) ∧ -lim62 ≤ j ∧ j < lim62 ∧ j - i ≤ 16777216 then some (rangeD i j) else none) = _
  rw [if_pos (by unfold lim62; omega), range_map]
theorem walk_r1 {j : Int} (h2 : 0 ≤ j) (h3 : j ≤ 100000) : walkR [.int j] = some ((irange 0 j).map D.int) := by
  show (if -lim62 ≤ j ∧ j < lim62 ∧ j ≤ 16777216 then some (rangeD 0 j) else none) = _
  rw [if_pos (by unfold lim62; omega), range_map]
structure Prc (m : Int) (rs : List Rl) : Prop where
  lo : 2 ≤ m
  hi : m ≤ 5
  len : rs.length ≤ 8
  ok : ∀ r ∈ rs, Okr m r
theorem zip_at {α : Type} {l : List α} {i : Nat} {p : α × Nat} (h : l.zipIdx[i]? = some p) : p.2 = i ∧ p.1 ∈ l ∧ i < l.length := by
  have hi := (List.getElem?_eq_some_iff.mp h).1
  rw [List.length_zipIdx] at hi
  rw [List.getElem?_zipIdx, List.getElem?_eq_getElem hi] at h
  have h := Option.some.inj h
  rw [← h]
  exact ⟨by simp, List.getElem_mem hi, hi⟩
theorem e15 {m : Int} {rs : List Rl} {c : List Int} (P : Prc m rs) (hm : (c.length : Int) = m) : Φ 15 [pD m rs, tI c] = M.pure (.lst ((mvs m rs c).map mvD)) := by
  have lo := P.lo
  have hi := P.hi
  show body (upto FG 15) fuel b15 4 [pD m rs, tI c] = _
  unfold b15
  have i0 : ixOf (pD m rs) (.int 0) = some (.int m) := rfl
  have i1 : ixOf (pD m rs) (.int 1) = some (.tup (rs.map rD)) := rfl
  have wr := walk_r2 (i := 1) (j := m) (by omega) (by omega) (by omega) (by omega)
  have we : (walkL (.tup (rs.map rD))).map (enumFrom 0) = some (rs.zipIdx.map fun p => .tup [.int (p.2 : Nat), rD p.1]) := by
    show some (enumFrom 0 (rs.map rD)) = _
    rw [enum_map]
  have L1 := loopT (Φ := upto FG 15) (fuel := fuel) (tg := .n 3) (b := [.ife (.op .gt (.idx (.var 1) (.var 3)) (.cst (.int 0))) [.app 2 (.tup [.tup [.cst (.str "drop"), .var 3], .call 14 [.var 1, .var 3]])] []]) (tmp := [3]) D.int
    (fun a : List Mv => [.imm (pD m rs), .imm (tI c), .ml (a.map mvD), .un, .un, .un]) (fun l s => if decide (0 < ge c s) then l ++ [mDrop c s] else l) (fun k a => a.length ≤ k)
    (irange 1 m) 0 [] (Nat.le_refl _) fun i s a his ha => by
      have hs := mem_irange.mp (List.mem_of_getElem? his)
      have hil := (List.getElem?_eq_some_iff.mp his).1
      rw [irange_len] at hil
      have e : upto FG 15 14 [tI c, .int s] = M.pure (tI (drp c s)) := by
        rw [upto_lt (by decide)]
        exact e14 (by omega) (by omega) (by omega)
      have h1 := ix_at (l := c) (i := s) (by omega) (by omega)
      refine ⟨?_, by split <;> simp <;> omega⟩
      cases hg : decide (0 < ge c s) <;> simp only [b_body, q_var, q_cst, q_con, q_tup, q_lst, q_op, opX_p, q_chn, q_and, q_or, q_and1, q_and2, q_or1, q_or2, andX_t, andX_f, orX_t, orX_f, q_not, negX_b, q_neg, q_ife, iteE_t, iteE_f, q_idx, q_slc, q_evo0, q_evo1, q_call, q_callk, q_evk0, q_evk1, q_prim, q_isi, q_comp, q_at, q_in, q_get, q_get3, q_fld, q_res, res_p, q_nil, q_cons, consX_p, q_ite, q_rng, q_enum, q_zip,   s_nil, s_cons, seqX_n, seqX_r, seqX_x, seqX_b, seqX_c, s_asg, asgX_p, s_par, s_new, s_fz, s_clr, s_setix, s_augix, s_aug, s_app, s_ext, s_ife, iteX_t, iteX_f, s_for, s_whilL, s_newd0, s_newd1, s_setk, s_pop, s_par2, s_set2, set2X_n, s_ret, s_exp, s_raise, retD_r, retD_n, slot_z, slot_s, slotD_z, slotD_s, mlS_z, mlS_s, seqS_z, seqS_d, seqS_s, mdS_z, mdS_s, newS_l, fz_q, fzQ_l, fzQ_d, app_q, ext_q, set_q, get_q, getQ_l, put_q, putQ_d, it_e, it_1, it2_n, it2_c, put_n, put_t, puts_z, puts_c, clear_z, clear_c,   immS_z, immS_i, immS_u, immS_l, immS_d, M.pure_bind, M.fail_bind, M.exc_bind, M.opt_some, M.opt_none, List.set_cons_succ, List.set_cons_zero, List.map_cons, List.map_nil, List.cons_append, List.nil_append, List.replicate_succ, List.replicate_zero, List.length_cons, List.length_nil, Nat.reduceLT, Nat.reduceAdd, Nat.zero_lt_succ, Nat.lt_add_left_iff_pos, reduceIte, Option.bind_some, Option.map_some, truth_b, decide_true, decide_false, Bool.not_true, Bool.not_false, tail_ret, h1, op_gti, hg, e, appQ_l (l := a.map mvD) (by rw [List.length_map]; omega), Bool.false_eq_true, if_true, if_false]
      simp [mvD, mDrop]
  have L2 := loopT (Φ := upto FG 15) (fuel := fuel) (tg := .t [.n 4, .n 5]) (b := [.ife (.call 12 [.var 1, .var 5]) [.app 2 (.tup [.tup [.cst (.str "rule"), .var 4], .call 13 [.var 1, .var 5]])] []]) (tmp := [4, 5]) (fun p : Rl × Nat => .tup [.int (p.2 : Nat), rD p.1])
    (fun a : List Mv => [.imm (pD m rs), .imm (tI c), .ml (a.map mvD), .un, .un, .un]) (fun l p => if poss c p.1 then l ++ [mRule c p] else l) (fun k a => a.length ≤ 5 + k)
    rs.zipIdx 0 ((irange 1 m).foldl (fun l s => if decide (0 < ge c s) then l ++ [mDrop c s] else l) []) (by have := L1.2; rw [irange_len] at this; omega) fun i p a hip ha => by
      obtain ⟨hp, hr, hl⟩ := zip_at hip
      have ok := P.ok _ hr
      have hl8 := P.len
      have e : upto FG 15 12 [tI c, rD p.1] = M.pure (.bl (poss c p.1)) := by
        rw [upto_lt (by decide)]
        exact e12 ok hm (by omega)
      have e' : upto FG 15 13 [tI c, rD p.1] = M.pure (tI (perf c p.1)) := by
        rw [upto_lt (by decide)]
        exact e13 ok hm (by omega)
      refine ⟨?_, by split <;> simp <;> omega⟩
      cases hg : poss c p.1 <;> simp only [b_body, q_var, q_cst, q_con, q_tup, q_lst, q_op, opX_p, q_chn, q_and, q_or, q_and1, q_and2, q_or1, q_or2, andX_t, andX_f, orX_t, orX_f, q_not, negX_b, q_neg, q_ife, iteE_t, iteE_f, q_idx, q_slc, q_evo0, q_evo1, q_call, q_callk, q_evk0, q_evk1, q_prim, q_isi, q_comp, q_at, q_in, q_get, q_get3, q_fld, q_res, res_p, q_nil, q_cons, consX_p, q_ite, q_rng, q_enum, q_zip,   s_nil, s_cons, seqX_n, seqX_r, seqX_x, seqX_b, seqX_c, s_asg, asgX_p, s_par, s_new, s_fz, s_clr, s_setix, s_augix, s_aug, s_app, s_ext, s_ife, iteX_t, iteX_f, s_for, s_whilL, s_newd0, s_newd1, s_setk, s_pop, s_par2, s_set2, set2X_n, s_ret, s_exp, s_raise, retD_r, retD_n, slot_z, slot_s, slotD_z, slotD_s, mlS_z, mlS_s, seqS_z, seqS_d, seqS_s, mdS_z, mdS_s, newS_l, fz_q, fzQ_l, fzQ_d, app_q, ext_q, set_q, get_q, getQ_l, put_q, putQ_d, it_e, it_1, it2_n, it2_c, put_n, put_t, puts_z, puts_c, clear_z, clear_c,   immS_z, immS_i, immS_u, immS_l, immS_d, M.pure_bind, M.fail_bind, M.exc_bind, M.opt_some, M.opt_none, List.set_cons_succ, List.set_cons_zero, List.map_cons, List.map_nil, List.cons_append, List.nil_append, List.replicate_succ, List.replicate_zero, List.length_cons, List.length_nil, Nat.reduceLT, Nat.reduceAdd, Nat.zero_lt_succ, Nat.lt_add_left_iff_pos, reduceIte, Option.bind_some, Option.map_some, truth_b, decide_true, decide_false, Bool.not_true, Bool.not_false, tail_ret, e, hg, e', appQ_l (l := a.map mvD) (by rw [List.length_map]; omega), Bool.false_eq_true, if_true, if_false]
      simp [mvD, mRule]
  simp only [b_body, q_var, q_cst, q_con, q_tup, q_lst, q_op, opX_p, q_chn, q_and, q_or, q_and1, q_and2, q_or1, q_or2, andX_t, andX_f, orX_t, orX_f, q_not, negX_b, q_neg, q_ife, iteE_t, iteE_f, q_idx, q_slc, q_evo0, q_evo1, q_call, q_callk, q_evk0, q_evk1, q_prim, q_isi, q_comp, q_at, q_in, q_get, q_get3, q_fld, q_res, res_p, q_nil, q_cons, consX_p, q_ite, q_rng, q_enum, q_zip,   s_nil, s_cons, seqX_n, seqX_r, seqX_x, seqX_b, seqX_c, s_asg, asgX_p, s_par, s_new, s_fz, s_clr, s_setix, s_augix, s_aug, s_app, s_ext, s_ife, iteX_t, iteX_f, s_for, s_whilL, s_newd0, s_newd1, s_setk, s_pop, s_par2, s_set2, set2X_n, s_ret, s_exp, s_raise, retD_r, retD_n, slot_z, slot_s, slotD_z, slotD_s, mlS_z, mlS_s, seqS_z, seqS_d, seqS_s, mdS_z, mdS_s, newS_l, fz_q, fzQ_l, fzQ_d, app_q, ext_q, set_q, get_q, getQ_l, put_q, putQ_d, it_e, it_1, it2_n, it2_c, put_n, put_t, puts_z, puts_c, clear_z, clear_c,   immS_z, immS_i, immS_u, immS_l, immS_d, M.pure_bind, M.fail_bind, M.exc_bind, M.opt_some, M.opt_none, List.set_cons_succ, List.set_cons_zero, List.map_cons, List.map_nil, List.cons_append, List.nil_append, List.replicate_succ, List.replicate_zero, List.length_cons, List.length_nil, Nat.reduceLT, Nat.reduceAdd, Nat.zero_lt_succ, Nat.lt_add_left_iff_pos, reduceIte, Option.bind_some, Option.map_some, truth_b, decide_true, decide_false, Bool.not_true, Bool.not_false, tail_ret, i0, wr]
  rw [show [Sl.imm (pD m rs), Sl.imm (tI c), .ml ([] : List D), .un, .un, .un] = [Sl.imm (pD m rs), Sl.imm (tI c), .ml (([] : List Mv).map mvD), .un, .un, .un] from rfl, L1.1]
  simp only [b_body, q_var, q_cst, q_con, q_tup, q_lst, q_op, opX_p, q_chn, q_and, q_or, q_and1, q_and2, q_or1, q_or2, andX_t, andX_f, orX_t, orX_f, q_not, negX_b, q_neg, q_ife, iteE_t, iteE_f, q_idx, q_slc, q_evo0, q_evo1, q_call, q_callk, q_evk0, q_evk1, q_prim, q_isi, q_comp, q_at, q_in, q_get, q_get3, q_fld, q_res, res_p, q_nil, q_cons, consX_p, q_ite, q_rng, q_enum, q_zip,   s_nil, s_cons, seqX_n, seqX_r, seqX_x, seqX_b, seqX_c, s_asg, asgX_p, s_par, s_new, s_fz, s_clr, s_setix, s_augix, s_aug, s_app, s_ext, s_ife, iteX_t, iteX_f, s_for, s_whilL, s_newd0, s_newd1, s_setk, s_pop, s_par2, s_set2, set2X_n, s_ret, s_exp, s_raise, retD_r, retD_n, slot_z, slot_s, slotD_z, slotD_s, mlS_z, mlS_s, seqS_z, seqS_d, seqS_s, mdS_z, mdS_s, newS_l, fz_q, fzQ_l, fzQ_d, app_q, ext_q, set_q, get_q, getQ_l, put_q, putQ_d, it_e, it_1, it2_n, it2_c, put_n, put_t, puts_z, puts_c, clear_z, clear_c,   immS_z, immS_i, immS_u, immS_l, immS_d, M.pure_bind, M.fail_bind, M.exc_bind, M.opt_some, M.opt_none, List.set_cons_succ, List.set_cons_zero, List.map_cons, List.map_nil, List.cons_append, List.nil_append, List.replicate_succ, List.replicate_zero, List.length_cons, List.length_nil, Nat.reduceLT, Nat.reduceAdd, Nat.zero_lt_succ, Nat.lt_add_left_iff_pos, reduceIte, Option.bind_some, Option.map_some, truth_b, decide_true, decide_false, Bool.not_true, Bool.not_false, tail_ret, i1, we]
  rw [L2.1]
  simp only [b_body, q_var, q_cst, q_con, q_tup, q_lst, q_op, opX_p, q_chn, q_and, q_or, q_and1, q_and2, q_or1, q_or2, andX_t, andX_f, orX_t, orX_f, q_not, negX_b, q_neg, q_ife, iteE_t, iteE_f, q_idx, q_slc, q_evo0, q_evo1, q_call, q_callk, q_evk0, q_evk1, q_prim, q_isi, q_comp, q_at, q_in, q_get, q_get3, q_fld, q_res, res_p, q_nil, q_cons, consX_p, q_ite, q_rng, q_enum, q_zip,   s_nil, s_cons, seqX_n, seqX_r, seqX_x, seqX_b, seqX_c, s_asg, asgX_p, s_par, s_new, s_fz, s_clr, s_setix, s_augix, s_aug, s_app, s_ext, s_ife, iteX_t, iteX_f, s_for, s_whilL, s_newd0, s_newd1, s_setk, s_pop, s_par2, s_set2, set2X_n, s_ret, s_exp, s_raise, retD_r, retD_n, slot_z, slot_s, slotD_z, slotD_s, mlS_z, mlS_s, seqS_z, seqS_d, seqS_s, mdS_z, mdS_s, newS_l, fz_q, fzQ_l, fzQ_d, app_q, ext_q, set_q, get_q, getQ_l, put_q, putQ_d, it_e, it_1, it2_n, it2_c, put_n, put_t, puts_z, puts_c, clear_z, clear_c,   immS_z, immS_i, immS_u, immS_l, immS_d, M.pure_bind, M.fail_bind, M.exc_bind, M.opt_some, M.opt_none, List.set_cons_succ, List.set_cons_zero, List.map_cons, List.map_nil, List.cons_append, List.nil_append, List.replicate_succ, List.replicate_zero, List.length_cons, List.length_nil, Nat.reduceLT, Nat.reduceAdd, Nat.zero_lt_succ, Nat.lt_add_left_iff_pos, reduceIte, Option.bind_some, Option.map_some, truth_b, decide_true, decide_false, Bool.not_true, Bool.not_false, tail_ret]
  unfold mvs
  rw [foldl_app, foldl_app, List.nil_append]
end GL
namespace GL
open PySem PySem.Spec L2 MC
/-! ### the law's own moves -/
theorem ge_set {l : List Int} {i j : Int} {x : Int} (h0 : 0 ≤ i) (h1 : i < l.length) (hj : 0 ≤ j) : ge (l.set i.toNat x) j = if i = j then x else ge l j := by
  unfold ge
  rw [List.getD_eq_getElem?_getD, List.getD_eq_getElem?_getD, List.getElem?_set]
  by_cases e : i = j
  · subst e
    rw [if_pos rfl, if_pos rfl, if_pos (by omega)]
    rfl
  · rw [if_neg (by omega), if_neg e]
theorem bump_comm {l : List Int} {i j x y : Int} (hi : 0 ≤ i ∧ i < l.length) (hj : 0 ≤ j ∧ j < l.length) : bump (bump l i x) j y = bump (bump l j y) i x := by
  unfold bump
  rw [ge_set hi.1 hi.2 hj.1, ge_set hj.1 hj.2 hi.1]
  by_cases e : i = j
  · subst e
    rw [if_pos rfl, if_pos rfl, List.set_set, List.set_set]
    congr 1
    omega
  · rw [if_neg e, if_neg (Ne.symm e), List.set_comm _ _ (by omega)]
theorem spread_bump {e : List Int} {n : Nat} (he : ∀ x ∈ e, 0 ≤ x ∧ x < n) {t x : Int} (ht : 0 ≤ t ∧ t < n) : ∀ (l : List (Int × Nat)) (a : List Int), a.length = n → (∀ p ∈ l, p.2 < e.length) → spread e l (bump a t x) = bump (spread e l a) t x
  | [], a, _, _ => rfl
  | p :: l, a, ha, hl => by
    have h2 := he _ (ge_mem (l := e) (i := (p.2 : Nat)) (by omega) (by have := hl p List.mem_cons_self; omega))
    show spread e l (bump (bump a t x) (ge e p.2) p.1) = bump (spread e l (bump a (ge e p.2) p.1)) t x
    rw [bump_comm (by rw [ha]; exact ht) (by rw [ha]; exact h2)]
    exact spread_bump he ht l _ (by rw [bump_len]; exact ha) fun q hq => hl q (List.mem_cons_of_mem _ hq)
theorem drp_eq {c : List Int} {s : Int} (hs : 1 ≤ s) (hc : 0 < c.length) : (oth c s).set 0 (ge c 0 + 1) = drp c s := by
  unfold drp oth
  obtain ⟨k, hk⟩ : ∃ k, s.toNat = k + 1 := ⟨s.toNat - 1, by omega⟩
  rw [hk]
  cases c with
  | nil => simp at hc
  | cons a l => rfl
theorem eq_nil {X : List D} (h : ∀ d ∈ X, ∃ i, d = .int i) : opD .eq (.lst X) (.lst []) = some (.bl X.isEmpty) := by
  have sh : (D.lst X).sh = true := by
    refine gd_ok (n := 1) ?_ (by omega)
    unfold gd
    induction X with
    | nil => rfl
    | cons d X ih =>
      unfold gds
      obtain ⟨i, rfl⟩ := h d List.mem_cons_self
      rw [ih fun x hx => h x (List.mem_cons_of_mem _ hx)]
      rfl
  rw [op_eq sh rfl]
  cases X <;> rfl
/-- counts at a list -/
def Cf (m : Int) (c : List Int) : Prop := (c.length : Int) = m ∧ ∀ x ∈ c, 0 ≤ x
theorem oth_self {c : List Int} {s : Int} (h0 : 0 ≤ s) (h1 : s < c.length) : ge (oth c s) s = ge c s - 1 := by
  unfold oth
  rw [ge_set h0 h1 h0, if_pos rfl]
theorem zeros_bump {n : Nat} {t : Int} (ht : 0 ≤ t ∧ t < n) : (zeros n).set t.toNat 1 = bump (zeros n) t 1 := by
  unfold bump
  congr 1
  have : ge (zeros n) t = 0 := by
    unfold ge zeros
    rw [List.getD_eq_getElem?_getD, List.getElem?_replicate, if_pos (by omega)]
    rfl
  rw [this]
  rfl
theorem any_empty {α : Type} (t : α → Bool) (f : α → D) : ∀ l : List α, ((l.filter t).map f).isEmpty = !l.any t
  | [] => rfl
  | x :: l => by
    cases h : t x with
    | true => rw [List.filter_cons_of_pos h, List.any_cons, h]; rfl
    | false => rw [List.filter_cons_of_neg (by rw [h]; exact Bool.false_ne_true), List.any_cons, h, any_empty t f l]; rfl
def bd99 : List S := [.new 5 (.prim .list [.var 1]), .augix 5 .sub (.var 8) (.cst (.int 1)), .asg (.n 6) (.and [.op .ge (.at_ 5 (.var 8)) (.cst (.int 0)), .or [.op .eq (.var 10) (.cst (.int 0)), .op .gt (.at_ 5 (.var 10)) (.cst (.int 0))]]), .ife (.and [.var 6, .op .eq (.comp (.cst (.int 1)) (.n 3) [3] (.e (.var 11)) [.op .gt (.at_ 5 (.var 3)) (.cst (.int 0))]) (.lst [])]) [.new 7 (.op .mul (.lst [.cst (.int 0)]) (.idx (.var 0) (.cst (.int 0)))), .setix 7 (.var 9) (.cst (.int 1)), .fz 5, .forr (.t [.n 3, .n 13]) (.enum (.var 5)) [.augix 7 .add (.idx (.var 12) (.var 3)) (.var 13)] [3, 13], .fz 7, .app 2 (.tup [.tup [.cst (.str "rule"), .var 4], .prim .tuple [.var 7]])] []]
theorem turn99 {m : Int} {rs : List Rl} {c : List Int} {r : Rl} {k : Nat} {a : List Mv} (lo : 2 ≤ m) (hi : m ≤ 5) (C : Cf m c) (ok : Okr m r) (ha : a.length ≤ 1000) :
    itE (upto FG 99) fuel (.t [.n 4, .t [.n 8, .n 9, .n 10, .n 11, .n 12]]) bd99 [4, 8, 9, 10, 11, 12, 5, 6, 7, 3, 13] (.tup [.int (k : Nat), rD r]) [.imm (pD m rs), .imm (tI c), .ml (a.map mvD), .un, .un, .un, .un, .un, .un, .un, .un, .un, .un, .un] =
      M.pure [.imm (pD m rs), .imm (tI c), .ml ((if poss c r then a ++ [mRule c (r, k)] else a).map mvD), .un, .un, .un, .un, .un, .un, .un, .un, .un, .un, .un] := by
  have hm := C.1
  have hs := ok.hs
  have hn := ok.hnd
  have ht := ok.ht
  have hle := ok.len
  unfold bd99 rD
  have pl : MC.prD .list [tI c] = some (.lst (c.map D.int)) := rfl
  have pt : ∀ l : List D, MC.prD .tuple [.lst l] = some (.tup l) := fun _ => rfl
  have x1 := ix_l (l := c) (i := r.s) hs.1 (by omega)
  have x2 := setQ_l (σ := [.imm (pD m rs), .imm (tI c), .ml (a.map mvD), .un, .imm (.int (k : Nat)), .ml (c.map D.int), .un, .un, .imm (.int r.s), .imm (.int r.t), .imm (.int r.n), .imm (tI r.b), .imm (tI r.e), .un]) (i := 5) (d := .int (ge c r.s - 1)) (l := c.map D.int) (j := r.s) hs.1 (by rw [List.length_map]; omega)
  have hset : (c.map D.int).set r.s.toNat (.int (ge c r.s - 1)) = (oth c r.s).map D.int := by unfold oth; rw [List.map_set]
  rw [hset] at x2
  have x3 := ix_l (l := oth c r.s) (i := r.s) hs.1 (by rw [oth_len]; omega)
  rw [oth_self hs.1 (by omega)] at x3
  have x4 := ix_l (l := oth c r.s) (i := r.n) hn.1 (by rw [oth_len]; omega)
  have gs : 0 ≤ ge c r.s := C.2 _ (ge_mem hs.1 (by omega))
  have d1 : decide (0 ≤ ge c r.s - 1) = !decide (ge c r.s = 0) := by
    by_cases h : ge c r.s = 0
    · rw [h]; rfl
    · rw [decide_eq_true (by omega), decide_eq_false h]; rfl
  have pe : poss c r = (decide (0 ≤ ge c r.s - 1) && ((decide (r.n = 0) || decide (0 < ge (oth c r.s) r.n)) && !(r.b.any fun x => decide (0 < ge (oth c r.s) x)))) := by rw [d1]; rfl
  have cm : ∀ σ3 : List Sl, compE (upto FG 99) (.n 3) (.cst (.int 1)) [.op .gt (.at_ 5 (.var 3)) (.cst (.int 0))] (.imm (pD m rs) :: .imm (tI c) :: .ml (a.map mvD) :: .un :: .imm (.int (k : Nat)) :: .ml ((oth c r.s).map D.int) :: σ3) (r.b.map D.int) = M.pure (((r.b.filter fun x => decide (0 < ge (oth c r.s) x)).map fun _ => D.int 1)) := fun σ3 => by
    rw [compT (fun _ => .int 1) (fun d => match d with | .int x => decide (0 < ge (oth c r.s) x) | _ => false) (r.b.map D.int) fun d hd => by
      obtain ⟨x, hx, rfl⟩ := List.mem_map.mp hd
      have hb := ok.hlb x hx
      refine ⟨_, put_n (by simp), evt1 ?_, fun _ => q_cst⟩
      simp only [b_body, q_var, q_cst, q_con, q_tup, q_lst, q_op, opX_p, q_chn, q_and, q_or, q_and1, q_and2, q_or1, q_or2, andX_t, andX_f, orX_t, orX_f, q_not, negX_b, q_neg, q_ife, iteE_t, iteE_f, q_idx, q_slc, q_evo0, q_evo1, q_call, q_callk, q_evk0, q_evk1, q_prim, q_isi, q_comp, q_at, q_in, q_get, q_get3, q_fld, q_res, res_p, q_nil, q_cons, consX_p, q_ite, q_rng, q_enum, q_zip,   s_nil, s_cons, seqX_n, seqX_r, seqX_x, seqX_b, seqX_c, s_asg, asgX_p, s_par, s_new, s_fz, s_clr, s_setix, s_augix, s_aug, s_app, s_ext, s_ife, iteX_t, iteX_f, s_for, s_whilL, s_newd0, s_newd1, s_setk, s_pop, s_par2, s_set2, set2X_n, s_ret, s_exp, s_raise, retD_r, retD_n, slot_z, slot_s, slotD_z, slotD_s, mlS_z, mlS_s, seqS_z, seqS_d, seqS_s, mdS_z, mdS_s, newS_l, fz_q, fzQ_l, fzQ_d, app_q, ext_q, set_q, get_q, getQ_l, put_q, putQ_d, it_e, it_1, it2_n, it2_c, put_n, put_t, puts_z, puts_c, clear_z, clear_c,   immS_z, immS_i, immS_u, immS_l, immS_d, M.pure_bind, M.fail_bind, M.exc_bind, M.opt_some, M.opt_none, List.set_cons_succ, List.set_cons_zero, List.map_cons, List.map_nil, List.cons_append, List.nil_append, List.replicate_succ, List.replicate_zero, List.length_cons, List.length_nil, Nat.reduceLT, Nat.reduceAdd, Nat.zero_lt_succ, Nat.lt_add_left_iff_pos, reduceIte, Option.bind_some, Option.map_some, truth_b, decide_true, decide_false, Bool.not_true, Bool.not_false, tail_ret, ix_l (l := oth c r.s) (i := x) (by omega) (by rw [oth_len]; omega), op_gti]]
    rw [List.filter_map, List.map_map]
    rfl
  have en : opD .eq (.lst ((r.b.filter fun x => decide (0 < ge (oth c r.s) x)).map fun _ => D.int 1)) (.lst []) = some (.bl (!(r.b.any fun x => decide (0 < ge (oth c r.s) x)))) := by
    rw [eq_nil fun d hd => by obtain ⟨_, _, rfl⟩ := List.mem_map.mp hd; exact ⟨1, rfl⟩, any_empty]
  have w : walkE (tI r.b) = some (r.b.map D.int) := rfl
  rw [pe]
  cases g1 : decide (0 ≤ ge c r.s - 1) with
  | false => simp only [b_body, q_var, q_cst, q_con, q_tup, q_lst, q_op, opX_p, q_chn, q_and, q_or, q_and1, q_and2, q_or1, q_or2, andX_t, andX_f, orX_t, orX_f, q_not, negX_b, q_neg, q_ife, iteE_t, iteE_f, q_idx, q_slc, q_evo0, q_evo1, q_call, q_callk, q_evk0, q_evk1, q_prim, q_isi, q_comp, q_at, q_in, q_get, q_get3, q_fld, q_res, res_p, q_nil, q_cons, consX_p, q_ite, q_rng, q_enum, q_zip,   s_nil, s_cons, seqX_n, seqX_r, seqX_x, seqX_b, seqX_c, s_asg, asgX_p, s_par, s_new, s_fz, s_clr, s_setix, s_augix, s_aug, s_app, s_ext, s_ife, iteX_t, iteX_f, s_for, s_whilL, s_newd0, s_newd1, s_setk, s_pop, s_par2, s_set2, set2X_n, s_ret, s_exp, s_raise, retD_r, retD_n, slot_z, slot_s, slotD_z, slotD_s, mlS_z, mlS_s, seqS_z, seqS_d, seqS_s, mdS_z, mdS_s, newS_l, fz_q, fzQ_l, fzQ_d, app_q, ext_q, set_q, get_q, getQ_l, put_q, putQ_d, it_e, it_1, it2_n, it2_c, put_n, put_t, puts_z, puts_c, clear_z, clear_c,   immS_z, immS_i, immS_u, immS_l, immS_d, M.pure_bind, M.fail_bind, M.exc_bind, M.opt_some, M.opt_none, List.set_cons_succ, List.set_cons_zero, List.map_cons, List.map_nil, List.cons_append, List.nil_append, List.replicate_succ, List.replicate_zero, List.length_cons, List.length_nil, Nat.reduceLT, Nat.reduceAdd, Nat.zero_lt_succ, Nat.lt_add_left_iff_pos, reduceIte, Option.bind_some, Option.map_some, truth_b, decide_true, decide_false, Bool.not_true, Bool.not_false, tail_ret, pl, x1, aug_sub, x2, x3, op_gei, g1, Bool.false_and, Bool.false_eq_true, if_false]
  | true =>
    cases g2 : (decide (r.n = 0) || decide (0 < ge (oth c r.s) r.n)) with
    | false =>
      obtain ⟨g3, g4⟩ := Bool.or_eq_false_iff.mp g2
      simp only [b_body, q_var, q_cst, q_con, q_tup, q_lst, q_op, opX_p, q_chn, q_and, q_or, q_and1, q_and2, q_or1, q_or2, andX_t, andX_f, orX_t, orX_f, q_not, negX_b, q_neg, q_ife, iteE_t, iteE_f, q_idx, q_slc, q_evo0, q_evo1, q_call, q_callk, q_evk0, q_evk1, q_prim, q_isi, q_comp, q_at, q_in, q_get, q_get3, q_fld, q_res, res_p, q_nil, q_cons, consX_p, q_ite, q_rng, q_enum, q_zip,   s_nil, s_cons, seqX_n, seqX_r, seqX_x, seqX_b, seqX_c, s_asg, asgX_p, s_par, s_new, s_fz, s_clr, s_setix, s_augix, s_aug, s_app, s_ext, s_ife, iteX_t, iteX_f, s_for, s_whilL, s_newd0, s_newd1, s_setk, s_pop, s_par2, s_set2, set2X_n, s_ret, s_exp, s_raise, retD_r, retD_n, slot_z, slot_s, slotD_z, slotD_s, mlS_z, mlS_s, seqS_z, seqS_d, seqS_s, mdS_z, mdS_s, newS_l, fz_q, fzQ_l, fzQ_d, app_q, ext_q, set_q, get_q, getQ_l, put_q, putQ_d, it_e, it_1, it2_n, it2_c, put_n, put_t, puts_z, puts_c, clear_z, clear_c,   immS_z, immS_i, immS_u, immS_l, immS_d, M.pure_bind, M.fail_bind, M.exc_bind, M.opt_some, M.opt_none, List.set_cons_succ, List.set_cons_zero, List.map_cons, List.map_nil, List.cons_append, List.nil_append, List.replicate_succ, List.replicate_zero, List.length_cons, List.length_nil, Nat.reduceLT, Nat.reduceAdd, Nat.zero_lt_succ, Nat.lt_add_left_iff_pos, reduceIte, Option.bind_some, Option.map_some, truth_b, decide_true, decide_false, Bool.not_true, Bool.not_false, tail_ret, pl, x1, aug_sub, x2, x3, x4, op_gei, op_eqi, op_gti, g1, g3, g4, Bool.false_and, Bool.and_false, Bool.false_eq_true, if_false]
    | true =>
      have o6 : ∀ σ3 : List Sl, orX (upto FG 99) [.op .gt (.at_ 5 (.var 10)) (.cst (.int 0))] ([.imm (pD m rs), .imm (tI c), .ml (a.map mvD), .un, .imm (.int (k : Nat)), .ml ((oth c r.s).map D.int), .un, .un, .imm (.int r.s), .imm (.int r.t), .imm (.int r.n), .imm (tI r.b), .imm (tI r.e), .un]) (M.pure (.bl (decide (r.n = 0)))) = M.pure (.bl true) := fun _ => by
        cases g3 : decide (r.n = 0) with
        | true => rfl
        | false =>
          rw [g3, Bool.false_or] at g2
          simp only [b_body, q_var, q_cst, q_con, q_tup, q_lst, q_op, opX_p, q_chn, q_and, q_or, q_and1, q_and2, q_or1, q_or2, andX_t, andX_f, orX_t, orX_f, q_not, negX_b, q_neg, q_ife, iteE_t, iteE_f, q_idx, q_slc, q_evo0, q_evo1, q_call, q_callk, q_evk0, q_evk1, q_prim, q_isi, q_comp, q_at, q_in, q_get, q_get3, q_fld, q_res, res_p, q_nil, q_cons, consX_p, q_ite, q_rng, q_enum, q_zip,   s_nil, s_cons, seqX_n, seqX_r, seqX_x, seqX_b, seqX_c, s_asg, asgX_p, s_par, s_new, s_fz, s_clr, s_setix, s_augix, s_aug, s_app, s_ext, s_ife, iteX_t, iteX_f, s_for, s_whilL, s_newd0, s_newd1, s_setk, s_pop, s_par2, s_set2, set2X_n, s_ret, s_exp, s_raise, retD_r, retD_n, slot_z, slot_s, slotD_z, slotD_s, mlS_z, mlS_s, seqS_z, seqS_d, seqS_s, mdS_z, mdS_s, newS_l, fz_q, fzQ_l, fzQ_d, app_q, ext_q, set_q, get_q, getQ_l, put_q, putQ_d, it_e, it_1, it2_n, it2_c, put_n, put_t, puts_z, puts_c, clear_z, clear_c,   immS_z, immS_i, immS_u, immS_l, immS_d, M.pure_bind, M.fail_bind, M.exc_bind, M.opt_some, M.opt_none, List.set_cons_succ, List.set_cons_zero, List.map_cons, List.map_nil, List.cons_append, List.nil_append, List.replicate_succ, List.replicate_zero, List.length_cons, List.length_nil, Nat.reduceLT, Nat.reduceAdd, Nat.zero_lt_succ, Nat.lt_add_left_iff_pos, reduceIte, Option.bind_some, Option.map_some, truth_b, decide_true, decide_false, Bool.not_true, Bool.not_false, tail_ret, x4, op_gti, g2]
      have o6 := o6 []
      cases g5 : (r.b.any fun x => decide (0 < ge (oth c r.s) x)) with
      | true => simp only [b_body, q_var, q_cst, q_con, q_tup, q_lst, q_op, opX_p, q_chn, q_and, q_or, q_and1, q_and2, q_or1, q_or2, andX_t, andX_f, orX_t, orX_f, q_not, negX_b, q_neg, q_ife, iteE_t, iteE_f, q_idx, q_slc, q_evo0, q_evo1, q_call, q_callk, q_evk0, q_evk1, q_prim, q_isi, q_comp, q_at, q_in, q_get, q_get3, q_fld, q_res, res_p, q_nil, q_cons, consX_p, q_ite, q_rng, q_enum, q_zip,   s_nil, s_cons, seqX_n, seqX_r, seqX_x, seqX_b, seqX_c, s_asg, asgX_p, s_par, s_new, s_fz, s_clr, s_setix, s_augix, s_aug, s_app, s_ext, s_ife, iteX_t, iteX_f, s_for, s_whilL, s_newd0, s_newd1, s_setk, s_pop, s_par2, s_set2, set2X_n, s_ret, s_exp, s_raise, retD_r, retD_n, slot_z, slot_s, slotD_z, slotD_s, mlS_z, mlS_s, seqS_z, seqS_d, seqS_s, mdS_z, mdS_s, newS_l, fz_q, fzQ_l, fzQ_d, app_q, ext_q, set_q, get_q, getQ_l, put_q, putQ_d, it_e, it_1, it2_n, it2_c, put_n, put_t, puts_z, puts_c, clear_z, clear_c,   immS_z, immS_i, immS_u, immS_l, immS_d, M.pure_bind, M.fail_bind, M.exc_bind, M.opt_some, M.opt_none, List.set_cons_succ, List.set_cons_zero, List.map_cons, List.map_nil, List.cons_append, List.nil_append, List.replicate_succ, List.replicate_zero, List.length_cons, List.length_nil, Nat.reduceLT, Nat.reduceAdd, Nat.zero_lt_succ, Nat.lt_add_left_iff_pos, reduceIte, Option.bind_some, Option.map_some, truth_b, decide_true, decide_false, Bool.not_true, Bool.not_false, tail_ret, pl, x1, aug_sub, x2, x3, op_gei, op_eqi, g1, o6, w, cm, en, g5, Bool.not_true, Bool.and_false, Bool.false_eq_true, if_false]
      | false =>
        have i0 : ixOf (pD m rs) (.int 0) = some (.int m) := rfl
        have em := op_mull (d := .int 0) (k := m) (by omega) (by omega)
        rw [← hm, Int.toNat_natCast, map_rep, hm] at em
        have wl : (walkL (.lst ((oth c r.s).map D.int))).map (enumFrom 0) = some ((oth c r.s).zipIdx.map fun p => .tup [.int (p.2 : Nat), .int p.1]) := by
          show some (enumFrom 0 ((oth c r.s).map D.int)) = _
          rw [enum_map]
        have lz : (zeros c.length).length = c.length := by unfold zeros; rw [List.length_replicate]
        have L := (loopT (Φ := upto FG 99) (fuel := fuel) (tg := .t [.n 3, .n 13]) (b := [.augix 7 .add (.idx (.var 12) (.var 3)) (.var 13)]) (tmp := [3, 13]) (fun p : Int × Nat => .tup [.int (p.2 : Nat), .int p.1])
          (fun x : List Int => [.imm (pD m rs), .imm (tI c), .ml (a.map mvD), .un, .imm (.int (k : Nat)), .imm (.lst ((oth c r.s).map D.int)), .imm (.bl true), .ml (x.map D.int), .imm (.int r.s), .imm (.int r.t), .imm (.int r.n), .imm (tI r.b), .imm (tI r.e), .un]) (fun a p => bump a (ge r.e p.2) p.1) (fun _ a => a.length = c.length)
          (oth c r.s).zipIdx 0 (bump (zeros c.length) r.t 1) (by rw [bump_len]; exact lz) fun i p a hi ha => by
            have hi' := (List.getElem?_eq_some_iff.mp hi).1
            rw [List.length_zipIdx, oth_len] at hi'
            have hp := (zip_at hi).1
            have h1 := ix_at (l := r.e) (i := (p.2 : Nat)) (by omega) (by omega)
            have h2 := ok.hle _ (ge_mem (l := r.e) (i := (p.2 : Nat)) (by omega) (by omega))
            refine ⟨?_, by rw [bump_len]; exact ha⟩
            simp only [b_body, q_var, q_cst, q_con, q_tup, q_lst, q_op, opX_p, q_chn, q_and, q_or, q_and1, q_and2, q_or1, q_or2, andX_t, andX_f, orX_t, orX_f, q_not, negX_b, q_neg, q_ife, iteE_t, iteE_f, q_idx, q_slc, q_evo0, q_evo1, q_call, q_callk, q_evk0, q_evk1, q_prim, q_isi, q_comp, q_at, q_in, q_get, q_get3, q_fld, q_res, res_p, q_nil, q_cons, consX_p, q_ite, q_rng, q_enum, q_zip,   s_nil, s_cons, seqX_n, seqX_r, seqX_x, seqX_b, seqX_c, s_asg, asgX_p, s_par, s_new, s_fz, s_clr, s_setix, s_augix, s_aug, s_app, s_ext, s_ife, iteX_t, iteX_f, s_for, s_whilL, s_newd0, s_newd1, s_setk, s_pop, s_par2, s_set2, set2X_n, s_ret, s_exp, s_raise, retD_r, retD_n, slot_z, slot_s, slotD_z, slotD_s, mlS_z, mlS_s, seqS_z, seqS_d, seqS_s, mdS_z, mdS_s, newS_l, fz_q, fzQ_l, fzQ_d, app_q, ext_q, set_q, get_q, getQ_l, put_q, putQ_d, it_e, it_1, it2_n, it2_c, put_n, put_t, puts_z, puts_c, clear_z, clear_c,   immS_z, immS_i, immS_u, immS_l, immS_d, M.pure_bind, M.fail_bind, M.exc_bind, M.opt_some, M.opt_none, List.set_cons_succ, List.set_cons_zero, List.map_cons, List.map_nil, List.cons_append, List.nil_append, List.replicate_succ, List.replicate_zero, List.length_cons, List.length_nil, Nat.reduceLT, Nat.reduceAdd, Nat.zero_lt_succ, Nat.lt_add_left_iff_pos, reduceIte, Option.bind_some, Option.map_some, truth_b, decide_true, decide_false, Bool.not_true, Bool.not_false, tail_ret, h1, ix_l (l := a) (i := ge r.e (p.2 : Nat)) h2.1 (by omega), aug_add, setQ_l (l := a.map D.int) (j := ge r.e (p.2 : Nat)) h2.1 (by rw [List.length_map]; omega)]
            unfold bump
            rw [List.map_set]).1
        have x7 : ((List.replicate c.length (0 : Int)).map D.int).set r.t.toNat (.int 1) = (bump (zeros c.length) r.t 1).map D.int := by
          rw [← zeros_bump (by omega), List.map_set]
          rfl
        simp only [b_body, q_var, q_cst, q_con, q_tup, q_lst, q_op, opX_p, q_chn, q_and, q_or, q_and1, q_and2, q_or1, q_or2, andX_t, andX_f, orX_t, orX_f, q_not, negX_b, q_neg, q_ife, iteE_t, iteE_f, q_idx, q_slc, q_evo0, q_evo1, q_call, q_callk, q_evk0, q_evk1, q_prim, q_isi, q_comp, q_at, q_in, q_get, q_get3, q_fld, q_res, res_p, q_nil, q_cons, consX_p, q_ite, q_rng, q_enum, q_zip,   s_nil, s_cons, seqX_n, seqX_r, seqX_x, seqX_b, seqX_c, s_asg, asgX_p, s_par, s_new, s_fz, s_clr, s_setix, s_augix, s_aug, s_app, s_ext, s_ife, iteX_t, iteX_f, s_for, s_whilL, s_newd0, s_newd1, s_setk, s_pop, s_par2, s_set2, set2X_n, s_ret, s_exp, s_raise, retD_r, retD_n, slot_z, slot_s, slotD_z, slotD_s, mlS_z, mlS_s, seqS_z, seqS_d, seqS_s, mdS_z, mdS_s, newS_l, fz_q, fzQ_l, fzQ_d, app_q, ext_q, set_q, get_q, getQ_l, put_q, putQ_d, it_e, it_1, it2_n, it2_c, put_n, put_t, puts_z, puts_c, clear_z, clear_c,   immS_z, immS_i, immS_u, immS_l, immS_d, M.pure_bind, M.fail_bind, M.exc_bind, M.opt_some, M.opt_none, List.set_cons_succ, List.set_cons_zero, List.map_cons, List.map_nil, List.cons_append, List.nil_append, List.replicate_succ, List.replicate_zero, List.length_cons, List.length_nil, Nat.reduceLT, Nat.reduceAdd, Nat.zero_lt_succ, Nat.lt_add_left_iff_pos, reduceIte, Option.bind_some, Option.map_some, truth_b, decide_true, decide_false, Bool.not_true, Bool.not_false, tail_ret, pl, x1, aug_sub, x2, x3, op_gei, op_eqi, g1, o6, w, cm, en, g5, Bool.not_false, i0, em, setQ_l (l := (List.replicate c.length (0 : Int)).map D.int) (j := r.t) ht.1 (by rw [List.length_map, List.length_replicate]; omega), x7, wl, L, pt, appQ_l (l := a.map mvD) (by rw [List.length_map]; omega), Bool.true_and, if_true]
        have key : (oth c r.s).zipIdx.foldl (fun a p => bump a (ge r.e p.2) p.1) (bump (zeros c.length) r.t 1) = perf c r := by
          unfold perf
          refine spread_bump (n := c.length) (fun x hx => by have := ok.hle x hx; omega) (by omega) _ _ lz fun p hp => ?_
          obtain ⟨j, hj⟩ := List.mem_iff_getElem?.mp hp
          obtain ⟨q1, _, q3⟩ := zip_at hj
          rw [oth_len] at q3
          omega
        rw [key, List.map_append]
        rfl
theorem e99 {m : Int} {rs : List Rl} {c : List Int} (P : Prc m rs) (C : Cf m c) : Φ 99 [pD m rs, tI c] = M.pure (.lst ((mvs m rs c).map mvD)) := by
  have lo := P.lo
  have hi := P.hi
  have hm := C.1
  show body (upto FG 99) fuel b99 12 [pD m rs, tI c] = _
  unfold b99
  have i0 : ixOf (pD m rs) (.int 0) = some (.int m) := rfl
  have i1 : ixOf (pD m rs) (.int 1) = some (.tup (rs.map rD)) := rfl
  have wr := walk_r2 (i := 1) (j := m) (by omega) (by omega) (by omega) (by omega)
  have we : (walkL (.tup (rs.map rD))).map (enumFrom 0) = some (rs.zipIdx.map fun p => .tup [.int (p.2 : Nat), rD p.1]) := by
    show some (enumFrom 0 (rs.map rD)) = _
    rw [enum_map]
  have pl : MC.prD .list [tI c] = some (.lst (c.map D.int)) := rfl
  have L1 := loopT (Φ := upto FG 99) (fuel := fuel) (tg := .n 3) (b := [.ife (.op .gt (.idx (.var 1) (.var 3)) (.cst (.int 0))) [.new 7 (.prim .list [.var 1]), .set2 7 (.var 3) (.cst (.int 0)) (.op .sub (.at_ 7 (.var 3)) (.cst (.int 1))) (.op .add (.at_ 7 (.cst (.int 0))) (.cst (.int 1))), .fz 7, .app 2 (.tup [.tup [.cst (.str "drop"), .var 3], .prim .tuple [.var 7]])] []]) (tmp := [3, 7]) D.int
    (fun a : List Mv => [.imm (pD m rs), .imm (tI c), .ml (a.map mvD), .un, .un, .un, .un, .un, .un, .un, .un, .un, .un, .un]) (fun l s => if decide (0 < ge c s) then l ++ [mDrop c s] else l) (fun k a => a.length ≤ k)
    (irange 1 m) 0 [] (Nat.le_refl _) fun i s a his ha => by
      have hs := mem_irange.mp (List.mem_of_getElem? his)
      have hil := (List.getElem?_eq_some_iff.mp his).1
      rw [irange_len] at hil
      have h1 := ix_at (l := c) (i := s) (by omega) (by omega)
      have h2 := ix_l (l := c) (i := s) (by omega) (by omega)
      have h3 := ix_l (l := c) (i := 0) (by omega) (by omega)
      have pt : ∀ l : List D, MC.prD .tuple [.lst l] = some (.tup l) := fun _ => rfl
      refine ⟨?_, by split <;> simp <;> omega⟩
      cases hg : decide (0 < ge c s) <;> simp only [b_body, q_var, q_cst, q_con, q_tup, q_lst, q_op, opX_p, q_chn, q_and, q_or, q_and1, q_and2, q_or1, q_or2, andX_t, andX_f, orX_t, orX_f, q_not, negX_b, q_neg, q_ife, iteE_t, iteE_f, q_idx, q_slc, q_evo0, q_evo1, q_call, q_callk, q_evk0, q_evk1, q_prim, q_isi, q_comp, q_at, q_in, q_get, q_get3, q_fld, q_res, res_p, q_nil, q_cons, consX_p, q_ite, q_rng, q_enum, q_zip,   s_nil, s_cons, seqX_n, seqX_r, seqX_x, seqX_b, seqX_c, s_asg, asgX_p, s_par, s_new, s_fz, s_clr, s_setix, s_augix, s_aug, s_app, s_ext, s_ife, iteX_t, iteX_f, s_for, s_whilL, s_newd0, s_newd1, s_setk, s_pop, s_par2, s_set2, set2X_n, s_ret, s_exp, s_raise, retD_r, retD_n, slot_z, slot_s, slotD_z, slotD_s, mlS_z, mlS_s, seqS_z, seqS_d, seqS_s, mdS_z, mdS_s, newS_l, fz_q, fzQ_l, fzQ_d, app_q, ext_q, set_q, get_q, getQ_l, put_q, putQ_d, it_e, it_1, it2_n, it2_c, put_n, put_t, puts_z, puts_c, clear_z, clear_c,   immS_z, immS_i, immS_u, immS_l, immS_d, M.pure_bind, M.fail_bind, M.exc_bind, M.opt_some, M.opt_none, List.set_cons_succ, List.set_cons_zero, List.map_cons, List.map_nil, List.cons_append, List.nil_append, List.replicate_succ, List.replicate_zero, List.length_cons, List.length_nil, Nat.reduceLT, Nat.reduceAdd, Nat.zero_lt_succ, Nat.lt_add_left_iff_pos, reduceIte, Option.bind_some, Option.map_some, truth_b, decide_true, decide_false, Bool.not_true, Bool.not_false, tail_ret, h1, h2, h3, op_gti, op_subi, op_addi, hg, pl, pt, setQ_l (l := c.map D.int) (j := s) (by omega) (by rw [List.length_map]; omega), setQ_l (l := (c.map D.int).set s.toNat (.int (ge c s - 1))) (j := 0) (by omega) (by rw [List.length_set, List.length_map]; omega), appQ_l (l := a.map mvD) (by rw [List.length_map]; omega), Bool.false_eq_true, if_true, if_false]
      rw [List.map_append]
      show M.pure [_, _, Sl.ml (_ ++ [D.tup [_, D.tup ((((c.map D.int).set s.toNat (D.int (ge c s - 1))).set (0 : Int).toNat (D.int (ge c 0 + 1))))]]), _, _, _, _, _, _, _, _, _, _, _] = M.pure [_, _, Sl.ml (_ ++ [D.tup [_, D.tup ((drp c s).map D.int)]]), _, _, _, _, _, _, _, _, _, _, _]
      rw [← List.map_set, ← List.map_set, ← drp_eq hs.1 (by omega)]
      rfl
  have L2 := loopT (Φ := upto FG 99) (fuel := fuel) (tg := .t [.n 4, .t [.n 8, .n 9, .n 10, .n 11, .n 12]]) (b := bd99) (tmp := [4, 8, 9, 10, 11, 12, 5, 6, 7, 3, 13]) (fun p : Rl × Nat => .tup [.int (p.2 : Nat), rD p.1])
    (fun a : List Mv => [.imm (pD m rs), .imm (tI c), .ml (a.map mvD), .un, .un, .un, .un, .un, .un, .un, .un, .un, .un, .un]) (fun l p => if poss c p.1 then l ++ [mRule c p] else l) (fun k a => a.length ≤ 5 + k)
    rs.zipIdx 0 ((irange 1 m).foldl (fun l s => if decide (0 < ge c s) then l ++ [mDrop c s] else l) []) (by have := L1.2; rw [irange_len] at this; omega) fun i p a hip ha => by
      obtain ⟨hp, hr, hl⟩ := zip_at hip
      obtain ⟨r, k⟩ := p
      have ok := P.ok _ hr
      have hl8 := P.len
      refine ⟨turn99 lo hi C ok (by omega), by split <;> simp <;> omega⟩
  simp only [b_body, q_var, q_cst, q_con, q_tup, q_lst, q_op, opX_p, q_chn, q_and, q_or, q_and1, q_and2, q_or1, q_or2, andX_t, andX_f, orX_t, orX_f, q_not, negX_b, q_neg, q_ife, iteE_t, iteE_f, q_idx, q_slc, q_evo0, q_evo1, q_call, q_callk, q_evk0, q_evk1, q_prim, q_isi, q_comp, q_at, q_in, q_get, q_get3, q_fld, q_res, res_p, q_nil, q_cons, consX_p, q_ite, q_rng, q_enum, q_zip,   s_nil, s_cons, seqX_n, seqX_r, seqX_x, seqX_b, seqX_c, s_asg, asgX_p, s_par, s_new, s_fz, s_clr, s_setix, s_augix, s_aug, s_app, s_ext, s_ife, iteX_t, iteX_f, s_for, s_whilL, s_newd0, s_newd1, s_setk, s_pop, s_par2, s_set2, set2X_n, s_ret, s_exp, s_raise, retD_r, retD_n, slot_z, slot_s, slotD_z, slotD_s, mlS_z, mlS_s, seqS_z, seqS_d, seqS_s, mdS_z, mdS_s, newS_l, fz_q, fzQ_l, fzQ_d, app_q, ext_q, set_q, get_q, getQ_l, put_q, putQ_d, it_e, it_1, it2_n, it2_c, put_n, put_t, puts_z, puts_c, clear_z, clear_c,   immS_z, immS_i, immS_u, immS_l, immS_d, M.pure_bind, M.fail_bind, M.exc_bind, M.opt_some, M.opt_none, List.set_cons_succ, List.set_cons_zero, List.map_cons, List.map_nil, List.cons_append, List.nil_append, List.replicate_succ, List.replicate_zero, List.length_cons, List.length_nil, Nat.reduceLT, Nat.reduceAdd, Nat.zero_lt_succ, Nat.lt_add_left_iff_pos, reduceIte, Option.bind_some, Option.map_some, truth_b, decide_true, decide_false, Bool.not_true, Bool.not_false, tail_ret, i0, wr]
  rw [show [Sl.imm (pD m rs), Sl.imm (tI c), .ml ([] : List D), .un, .un, .un, .un, .un, .un, .un, .un, .un, .un, .un] = [Sl.imm (pD m rs), Sl.imm (tI c), .ml (([] : List Mv).map mvD), .un, .un, .un, .un, .un, .un, .un, .un, .un, .un, .un] from rfl, L1.1]
  simp only [b_body, q_var, q_cst, q_con, q_tup, q_lst, q_op, opX_p, q_chn, q_and, q_or, q_and1, q_and2, q_or1, q_or2, andX_t, andX_f, orX_t, orX_f, q_not, negX_b, q_neg, q_ife, iteE_t, iteE_f, q_idx, q_slc, q_evo0, q_evo1, q_call, q_callk, q_evk0, q_evk1, q_prim, q_isi, q_comp, q_at, q_in, q_get, q_get3, q_fld, q_res, res_p, q_nil, q_cons, consX_p, q_ite, q_rng, q_enum, q_zip,   s_nil, s_cons, seqX_n, seqX_r, seqX_x, seqX_b, seqX_c, s_asg, asgX_p, s_par, s_new, s_fz, s_clr, s_setix, s_augix, s_aug, s_app, s_ext, s_ife, iteX_t, iteX_f, s_for, s_whilL, s_newd0, s_newd1, s_setk, s_pop, s_par2, s_set2, set2X_n, s_ret, s_exp, s_raise, retD_r, retD_n, slot_z, slot_s, slotD_z, slotD_s, mlS_z, mlS_s, seqS_z, seqS_d, seqS_s, mdS_z, mdS_s, newS_l, fz_q, fzQ_l, fzQ_d, app_q, ext_q, set_q, get_q, getQ_l, put_q, putQ_d, it_e, it_1, it2_n, it2_c, put_n, put_t, puts_z, puts_c, clear_z, clear_c,   immS_z, immS_i, immS_u, immS_l, immS_d, M.pure_bind, M.fail_bind, M.exc_bind, M.opt_some, M.opt_none, List.set_cons_succ, List.set_cons_zero, List.map_cons, List.map_nil, List.cons_append, List.nil_append, List.replicate_succ, List.replicate_zero, List.length_cons, List.length_nil, Nat.reduceLT, Nat.reduceAdd, Nat.zero_lt_succ, Nat.lt_add_left_iff_pos, reduceIte, Option.bind_some, Option.map_some, truth_b, decide_true, decide_false, Bool.not_true, Bool.not_false, tail_ret, i1, we]
  have L2 := L2.1
  unfold bd99 at L2
  rw [L2]
  simp only [b_body, q_var, q_cst, q_con, q_tup, q_lst, q_op, opX_p, q_chn, q_and, q_or, q_and1, q_and2, q_or1, q_or2, andX_t, andX_f, orX_t, orX_f, q_not, negX_b, q_neg, q_ife, iteE_t, iteE_f, q_idx, q_slc, q_evo0, q_evo1, q_call, q_callk, q_evk0, q_evk1, q_prim, q_isi, q_comp, q_at, q_in, q_get, q_get3, q_fld, q_res, res_p, q_nil, q_cons, consX_p, q_ite, q_rng, q_enum, q_zip,   s_nil, s_cons, seqX_n, seqX_r, seqX_x, seqX_b, seqX_c, s_asg, asgX_p, s_par, s_new, s_fz, s_clr, s_setix, s_augix, s_aug, s_app, s_ext, s_ife, iteX_t, iteX_f, s_for, s_whilL, s_newd0, s_newd1, s_setk, s_pop, s_par2, s_set2, set2X_n, s_ret, s_exp, s_raise, retD_r, retD_n, slot_z, slot_s, slotD_z, slotD_s, mlS_z, mlS_s, seqS_z, seqS_d, seqS_s, mdS_z, mdS_s, newS_l, fz_q, fzQ_l, fzQ_d, app_q, ext_q, set_q, get_q, getQ_l, put_q, putQ_d, it_e, it_1, it2_n, it2_c, put_n, put_t, puts_z, puts_c, clear_z, clear_c,   immS_z, immS_i, immS_u, immS_l, immS_d, M.pure_bind, M.fail_bind, M.exc_bind, M.opt_some, M.opt_none, List.set_cons_succ, List.set_cons_zero, List.map_cons, List.map_nil, List.cons_append, List.nil_append, List.replicate_succ, List.replicate_zero, List.length_cons, List.length_nil, Nat.reduceLT, Nat.reduceAdd, Nat.zero_lt_succ, Nat.lt_add_left_iff_pos, reduceIte, Option.bind_some, Option.map_some, truth_b, decide_true, decide_false, Bool.not_true, Bool.not_false, tail_ret]
  unfold mvs
  rw [foldl_app, foldl_app, List.nil_append]
end GL
namespace GL
open PySem PySem.Spec L2 MC
/-! ### what is drawn is a protocol -/
theorem ascB_of : ∀ {l : List Int}, l.Pairwise (· < ·) → ascB (l.map D.int) = true
  | [], _ => rfl
  | [a], _ => rfl
  | a :: b :: l, h => by
    have h1 := List.pairwise_cons.mp h
    show (decide (a < b) && ascB (.int b :: l.map D.int)) = true
    rw [decide_eq_true (h1.1 b List.mem_cons_self)]
    exact ascB_of h1.2
theorem all_betw {lo hi : Int} {l : List Int} (h : ∀ x ∈ l, lo ≤ x ∧ x ≤ hi) : (l.map D.int).all (betw lo hi) = true := by
  rw [List.all_eq_true]
  intro d hd
  obtain ⟨x, hx, rfl⟩ := List.mem_map.mp hd
  have := h x hx
  show (decide (lo ≤ x) && decide (x ≤ hi)) = true
  rw [decide_eq_true this.1, decide_eq_true this.2]
  rfl
theorem rule_ok {m : Int} {r : Rl} (h : Okr m r) : ruleB m (rD r) = true := by
  have h1 := h.hs
  have h2 := h.ht
  have h3 := h.hnd
  have a1 : areB 0 (m - 1) (.tup [.int r.s, .int r.t, .int r.n]) = true := all_betw (l := [r.s, r.t, r.n]) fun x hx => by
    simp at hx
    omega
  have a2 : barsB m (.int r.n) (tI r.b) = true := by
    show ((r.b.map D.int).all (betw 1 (m - 1)) && ascB (r.b.map D.int) && !((r.b.map D.int).any fun z => eqD z (.int r.n))) = true
    rw [all_betw fun x hx => by have := h.hlb x hx; omega, ascB_of h.asc]
    have : ((r.b.map D.int).any fun z => eqD z (.int r.n)) = false := by
      rw [List.any_eq_false]
      intro d hd
      obtain ⟨x, hx, rfl⟩ := List.mem_map.mp hd
      rw [eq_int, decide_eq_true_eq]
      exact fun e => h.no (e ▸ hx)
    rw [this]
    rfl
  have a3 : effB m (tI r.e) = true := by
    show ((r.e.map D.int).all (betw 0 (m - 1)) && decide (((r.e.map D.int).length : Int) = m) && head0 (r.e.map D.int)) = true
    rw [all_betw fun x hx => by have := h.hle x hx; omega, List.length_map, decide_eq_true h.len]
    obtain ⟨q, hq⟩ := h.hd
    rw [hq]
    rfl
  show (areB 0 (m - 1) (.tup [.int r.s, .int r.t, .int r.n]) && barsB m (.int r.n) (tI r.b) && effB m (tI r.e)) = true
  rw [a1, a2, a3]
  rfl
theorem prot_ok {m : Int} {rs : List Rl} (P : Prc m rs) : protB (pD m rs) = true := by
  show (betw 2 5 (.int m) && (decide ((rs.map rD).length ≤ 8) && (rs.map rD).all (ruleB m))) = true
  have e : betw 2 5 (.int m) = true := by
    show (decide (2 ≤ m) && decide (m ≤ 5)) = true
    rw [decide_eq_true P.lo, decide_eq_true P.hi]
    rfl
  rw [e, List.length_map, decide_eq_true P.len]
  have : (rs.map rD).all (ruleB m) = true := by
    rw [List.all_eq_true]
    intro d hd
    obtain ⟨r, hr, rfl⟩ := List.mem_map.mp hd
    exact rule_ok (P.ok r hr)
  rw [this]
  rfl
theorem gds_of {n : Nat} : ∀ {l : List D}, (∀ d ∈ l, gd n d = true) → gds n l = true
  | [], _ => by cases n <;> rfl
  | d :: l, h => by
    unfold gds
    rw [h d List.mem_cons_self, gds_of fun x hx => h x (List.mem_cons_of_mem _ hx)]
    rfl
theorem gd_int {n : Nat} {i : Int} : gd n (.int i) = true := by cases n <;> rfl
theorem gd_non {n : Nat} : gd n .non = true := by cases n <;> rfl
theorem gd_tI {n : Nat} {l : List Int} : gd (n + 1) (tI l) = true := by
  unfold gd
  exact gds_of fun d hd => by
    obtain ⟨x, _, rfl⟩ := List.mem_map.mp hd
    exact gd_int
theorem gd_lI {n : Nat} {l : List Int} : gd (n + 1) (.lst (l.map D.int)) = true := by
  unfold gd
  exact gds_of fun d hd => by
    obtain ⟨x, _, rfl⟩ := List.mem_map.mp hd
    exact gd_int
theorem gd_rD {r : Rl} : gd 2 (rD r) = true := by
  unfold rD gd
  refine gds_of fun d hd => ?_
  simp only [List.mem_cons, List.not_mem_nil, or_false] at hd
  rcases hd with rfl | rfl | rfl | rfl | rfl
  · exact gd_int
  · exact gd_int
  · exact gd_int
  · exact gd_tI
  · exact gd_tI
theorem gd_pD {m : Int} {rs : List Rl} : gd 4 (pD m rs) = true := by
  unfold pD gd
  refine gds_of fun d hd => ?_
  simp only [List.mem_cons, List.not_mem_nil, or_false] at hd
  rcases hd with rfl | rfl
  · exact gd_int
  · unfold gd
    exact gds_of fun d hd => by
      obtain ⟨r, _, rfl⟩ := List.mem_map.mp hd
      exact gd_rD
/-! ### draws, typed -/
theorem rules_of {m : Int} : ∀ {l : List D}, (∀ d ∈ l, ∃ s t nd lb le, d = ruleD s t nd lb le ∧ Rule m s t nd lb le) → ∃ rs : List Rl, l = rs.map rD ∧ ∀ r ∈ rs, Okr m r
  | [], _ => ⟨[], rfl, fun r hr => by cases hr⟩
  | d :: l, h => by
    obtain ⟨s, t, nd, lb, le, rfl, hR⟩ := h d List.mem_cons_self
    obtain ⟨rs, rfl, hrs⟩ := rules_of fun x hx => h x (List.mem_cons_of_mem _ hx)
    refine ⟨⟨s, t, nd, lb, le⟩ :: rs, rfl, fun r hr => ?_⟩
    rcases List.mem_cons.mp hr with rfl | hr
    · exact hR
    · exact hrs r hr
section
variable {ns : List Int} (hl : ns.length ≤ 63)
include hl
theorem g10 {st ru : Int} (s0 : 2 ≤ st) (s1 : st ≤ 5) (r0 : 0 ≤ ru) (r1 : ru ≤ 8) : Got ns.length (Φ 10 [.scr ns, .obj 0, .int st, .int ru]) fun d => ∃ m rs, d = pD m rs ∧ Prc m rs ∧ m ≤ st ∧ (rs.length : Int) ≤ ru := by
  refine got_body (b := b10) (k := 2) (as := [.scr ns, .obj 0, .int st, .int ru]) ?_
  refine got_asg (P := fun d => ∃ v, d = .int v ∧ 2 ≤ v ∧ v < st + 1) (got_op got_cst (got_call (fun g => rfl) (dr hl (by decide) (m := st - 1) (by omega) (by omega))) fun x y hx ⟨v, hy, v0, v1⟩ => by subst hx hy; exact ⟨_, rfl, 2 + v, rfl, by omega, by omega⟩) fun d ⟨many, hd, m0, m1⟩ => ?_
  subst hd
  refine ⟨[.imm (.scr ns), .imm (.obj 0), .imm (.int st), .imm (.int ru), .imm (.int many), .un], rfl, ?_⟩
  refine (got_ret (got_tup (got_evs (got_e fun g => rfl) (got_evs (got_prim1 (Q := fun d => ∃ rs, d = .tup rs ∧ (rs.length : Int) ≤ ru ∧ ∀ d ∈ rs, ∃ s t nd lb le, d = ruleD s t nd lb le ∧ Rule many s t nd lb le) (got_comp' (Q := fun rs => (rs.length : Int) ≤ ru ∧ ∀ d ∈ rs, ∃ s t nd lb le, d = ruleD s t nd lb le ∧ Rule many s t nd lb le) (got_rng1 (lo := 0) (hi := ru + 1) (got_call (fun g => rfl) (dr hl (by decide) (m := ru + 1) (by omega) (by omega))) (by omega) (by omega)) fun items ⟨v, hi, v0, v1⟩ => ?_) fun d ⟨l, hd, hq⟩ => by subst hd; exact ⟨.tup l, rfl, l, rfl, hq⟩) got_nil)))).imp fun f ⟨d, hf, ds, hd, d1, r1, e1, hd1, d2, r2, e2, ⟨rs, hrs, hR1, hR2⟩, hr2⟩ => ?_
  · subst hi
    refine (got_compL (fun _ => True) (fun _ d => ∃ s t nd lb le, d = ruleD s t nd lb le ∧ Rule many s t nd lb le) (rangeD 0 v) fun d hd => ⟨[.imm (.scr ns), .imm (.obj 0), .imm (.int st), .imm (.int ru), .imm (.int many), .imm d], rfl, .of (fun g => rfl) fun _ => trivial, fun _ => got_call (fun g => rfl) ?_⟩).imp fun ds ⟨ks, h1, h2, h3, h4⟩ => ⟨?_, fun d hd => ?_⟩
    · rw [up (by decide)]
      exact e9 hl (by omega) (by omega)
    · have := h1.length_le
      rw [range_len] at this
      omega
    · obtain ⟨i, hi⟩ := List.mem_iff_getElem?.mp hd
      have hlt : i < ks.length := by rw [← h3]; exact (List.getElem?_eq_some_iff.mp hi).1
      exact h4 i ks[i] d (List.getElem?_eq_getElem hlt) hi
  · subst hd e1 hd1 e2 hrs hr2
    obtain ⟨rl, rfl, hrl⟩ := rules_of hR2
    rw [List.length_map] at hR1
    exact ⟨_, hf, many, rl, rfl, ⟨by omega, by omega, by omega, hrl⟩, by omega, hR1⟩
end
/-! ### the checks -/
theorem c19 {n : Nat} {v : D} (hn : n ≤ 60) (h : gd n v = true) : Φ 19 [v] = if protB v = true then M.pure .non else M.exc "InvalidProtocol" := by
  show body (upto FG 19) fuel b19 0 [v] = _
  unfold b19
  have e : upto FG 19 7 [v] = M.pure (.bl (protB v)) := by
    rw [up (by decide)]
    exact toM fun g => e7 hn h
  cases hp : protB v <;> simp only [b_body, q_var, q_cst, q_con, q_tup, q_lst, q_op, opX_p, q_chn, q_and, q_or, q_and1, q_and2, q_or1, q_or2, andX_t, andX_f, orX_t, orX_f, q_not, negX_b, q_neg, q_ife, iteE_t, iteE_f, q_idx, q_slc, q_evo0, q_evo1, q_call, q_callk, q_evk0, q_evk1, q_prim, q_isi, q_comp, q_at, q_in, q_get, q_get3, q_fld, q_res, res_p, q_nil, q_cons, consX_p, q_ite, q_rng, q_enum, q_zip,   s_nil, s_cons, seqX_n, seqX_r, seqX_x, seqX_b, seqX_c, s_asg, asgX_p, s_par, s_new, s_fz, s_clr, s_setix, s_augix, s_aug, s_app, s_ext, s_ife, iteX_t, iteX_f, s_for, s_whilL, s_newd0, s_newd1, s_setk, s_pop, s_par2, s_set2, set2X_n, s_ret, s_exp, s_raise, retD_r, retD_n, slot_z, slot_s, slotD_z, slotD_s, mlS_z, mlS_s, seqS_z, seqS_d, seqS_s, mdS_z, mdS_s, newS_l, fz_q, fzQ_l, fzQ_d, app_q, ext_q, set_q, get_q, getQ_l, put_q, putQ_d, it_e, it_1, it2_n, it2_c, put_n, put_t, puts_z, puts_c, clear_z, clear_c,   immS_z, immS_i, immS_u, immS_l, immS_d, M.pure_bind, M.fail_bind, M.exc_bind, M.opt_some, M.opt_none, List.set_cons_succ, List.set_cons_zero, List.map_cons, List.map_nil, List.cons_append, List.nil_append, List.replicate_succ, List.replicate_zero, List.length_cons, List.length_nil, Nat.reduceLT, Nat.reduceAdd, Nat.zero_lt_succ, Nat.lt_add_left_iff_pos, reduceIte, Option.bind_some, Option.map_some, truth_b, decide_true, decide_false, Bool.not_true, Bool.not_false, tail_ret, e, hp, Bool.not_false, Bool.not_true, Bool.false_eq_true, if_true, if_false]
theorem c28 {n : Nat} {v r : D} {m : Int} (h : gd n v = true) : Φ 28 [.tup [.int m, r], v] = if confB m v = true then M.pure .non else M.exc "InvalidConfiguration" := by
  show body (upto FG 28) fuel b28 0 [.tup [.int m, r], v] = _
  unfold b28
  have e : upto FG 28 22 [.tup [.int m, r], v] = M.pure (.bl (confB m v)) := by
    rw [up (by decide)]
    exact toM fun g => e22 h
  cases hp : confB m v <;> simp only [b_body, q_var, q_cst, q_con, q_tup, q_lst, q_op, opX_p, q_chn, q_and, q_or, q_and1, q_and2, q_or1, q_or2, andX_t, andX_f, orX_t, orX_f, q_not, negX_b, q_neg, q_ife, iteE_t, iteE_f, q_idx, q_slc, q_evo0, q_evo1, q_call, q_callk, q_evk0, q_evk1, q_prim, q_isi, q_comp, q_at, q_in, q_get, q_get3, q_fld, q_res, res_p, q_nil, q_cons, consX_p, q_ite, q_rng, q_enum, q_zip,   s_nil, s_cons, seqX_n, seqX_r, seqX_x, seqX_b, seqX_c, s_asg, asgX_p, s_par, s_new, s_fz, s_clr, s_setix, s_augix, s_aug, s_app, s_ext, s_ife, iteX_t, iteX_f, s_for, s_whilL, s_newd0, s_newd1, s_setk, s_pop, s_par2, s_set2, set2X_n, s_ret, s_exp, s_raise, retD_r, retD_n, slot_z, slot_s, slotD_z, slotD_s, mlS_z, mlS_s, seqS_z, seqS_d, seqS_s, mdS_z, mdS_s, newS_l, fz_q, fzQ_l, fzQ_d, app_q, ext_q, set_q, get_q, getQ_l, put_q, putQ_d, it_e, it_1, it2_n, it2_c, put_n, put_t, puts_z, puts_c, clear_z, clear_c,   immS_z, immS_i, immS_u, immS_l, immS_d, M.pure_bind, M.fail_bind, M.exc_bind, M.opt_some, M.opt_none, List.set_cons_succ, List.set_cons_zero, List.map_cons, List.map_nil, List.cons_append, List.nil_append, List.replicate_succ, List.replicate_zero, List.length_cons, List.length_nil, Nat.reduceLT, Nat.reduceAdd, Nat.zero_lt_succ, Nat.lt_add_left_iff_pos, reduceIte, Option.bind_some, Option.map_some, truth_b, decide_true, decide_false, Bool.not_true, Bool.not_false, tail_ret, e, hp, Bool.not_false, Bool.not_true, Bool.false_eq_true, if_true, if_false]
theorem c29 {v : D} (h : plain v = true) : Φ 29 [v] = if betw 1 8 v = true then M.pure .non else M.exc "InvalidNumber" := by
  show body (upto FG 29) fuel b29 0 [v] = _
  unfold b29
  have e : upto FG 29 3 [v, .int 1, .int 8] = M.pure (.bl (betw 1 8 v)) := by
    rw [up (by decide)]
    exact toM fun g => e3 h
  cases hp : betw 1 8 v <;> simp only [b_body, q_var, q_cst, q_con, q_tup, q_lst, q_op, opX_p, q_chn, q_and, q_or, q_and1, q_and2, q_or1, q_or2, andX_t, andX_f, orX_t, orX_f, q_not, negX_b, q_neg, q_ife, iteE_t, iteE_f, q_idx, q_slc, q_evo0, q_evo1, q_call, q_callk, q_evk0, q_evk1, q_prim, q_isi, q_comp, q_at, q_in, q_get, q_get3, q_fld, q_res, res_p, q_nil, q_cons, consX_p, q_ite, q_rng, q_enum, q_zip,   s_nil, s_cons, seqX_n, seqX_r, seqX_x, seqX_b, seqX_c, s_asg, asgX_p, s_par, s_new, s_fz, s_clr, s_setix, s_augix, s_aug, s_app, s_ext, s_ife, iteX_t, iteX_f, s_for, s_whilL, s_newd0, s_newd1, s_setk, s_pop, s_par2, s_set2, set2X_n, s_ret, s_exp, s_raise, retD_r, retD_n, slot_z, slot_s, slotD_z, slotD_s, mlS_z, mlS_s, seqS_z, seqS_d, seqS_s, mdS_z, mdS_s, newS_l, fz_q, fzQ_l, fzQ_d, app_q, ext_q, set_q, get_q, getQ_l, put_q, putQ_d, it_e, it_1, it2_n, it2_c, put_n, put_t, puts_z, puts_c, clear_z, clear_c,   immS_z, immS_i, immS_u, immS_l, immS_d, M.pure_bind, M.fail_bind, M.exc_bind, M.opt_some, M.opt_none, List.set_cons_succ, List.set_cons_zero, List.map_cons, List.map_nil, List.cons_append, List.nil_append, List.replicate_succ, List.replicate_zero, List.length_cons, List.length_nil, Nat.reduceLT, Nat.reduceAdd, Nat.zero_lt_succ, Nat.lt_add_left_iff_pos, reduceIte, Option.bind_some, Option.map_some, truth_b, decide_true, decide_false, Bool.not_true, Bool.not_false, tail_ret, e, hp, Bool.not_false, Bool.not_true, Bool.false_eq_true, if_true, if_false]
/-- initial -/
theorem c30 {n : Nat} {p v : D} (hn : n ≤ 60) (hp : gd n p = true) (hv : plain v = true) : Φ 30 [p, v] = if protB p = true then (if betw 1 8 v = true then Φ 11 [p, v] else M.exc "InvalidNumber") else M.exc "InvalidProtocol" := by
  show body (upto FG 30) fuel b30 0 [p, v] = _
  unfold b30
  have e1 : upto FG 30 19 [p] = if protB p = true then M.pure .non else M.exc "InvalidProtocol" := by
    rw [up (by decide)]
    exact c19 hn hp
  have e2 : upto FG 30 29 [v] = if betw 1 8 v = true then M.pure .non else M.exc "InvalidNumber" := by
    rw [up (by decide)]
    exact c29 hv
  have e3 : upto FG 30 11 = Φ 11 := upto_lt (by decide)
  cases hq : protB p
  · simp only [b_body, q_var, q_cst, q_con, q_tup, q_lst, q_op, opX_p, q_chn, q_and, q_or, q_and1, q_and2, q_or1, q_or2, andX_t, andX_f, orX_t, orX_f, q_not, negX_b, q_neg, q_ife, iteE_t, iteE_f, q_idx, q_slc, q_evo0, q_evo1, q_call, q_callk, q_evk0, q_evk1, q_prim, q_isi, q_comp, q_at, q_in, q_get, q_get3, q_fld, q_res, res_p, q_nil, q_cons, consX_p, q_ite, q_rng, q_enum, q_zip,   s_nil, s_cons, seqX_n, seqX_r, seqX_x, seqX_b, seqX_c, s_asg, asgX_p, s_par, s_new, s_fz, s_clr, s_setix, s_augix, s_aug, s_app, s_ext, s_ife, iteX_t, iteX_f, s_for, s_whilL, s_newd0, s_newd1, s_setk, s_pop, s_par2, s_set2, set2X_n, s_ret, s_exp, s_raise, retD_r, retD_n, slot_z, slot_s, slotD_z, slotD_s, mlS_z, mlS_s, seqS_z, seqS_d, seqS_s, mdS_z, mdS_s, newS_l, fz_q, fzQ_l, fzQ_d, app_q, ext_q, set_q, get_q, getQ_l, put_q, putQ_d, it_e, it_1, it2_n, it2_c, put_n, put_t, puts_z, puts_c, clear_z, clear_c,   immS_z, immS_i, immS_u, immS_l, immS_d, M.pure_bind, M.fail_bind, M.exc_bind, M.opt_some, M.opt_none, List.set_cons_succ, List.set_cons_zero, List.map_cons, List.map_nil, List.cons_append, List.nil_append, List.replicate_succ, List.replicate_zero, List.length_cons, List.length_nil, Nat.reduceLT, Nat.reduceAdd, Nat.zero_lt_succ, Nat.lt_add_left_iff_pos, reduceIte, Option.bind_some, Option.map_some, truth_b, decide_true, decide_false, Bool.not_true, Bool.not_false, tail_ret, e1, hq, Bool.false_eq_true, if_false]
  · cases hb : betw 1 8 v
    · simp only [b_body, q_var, q_cst, q_con, q_tup, q_lst, q_op, opX_p, q_chn, q_and, q_or, q_and1, q_and2, q_or1, q_or2, andX_t, andX_f, orX_t, orX_f, q_not, negX_b, q_neg, q_ife, iteE_t, iteE_f, q_idx, q_slc, q_evo0, q_evo1, q_call, q_callk, q_evk0, q_evk1, q_prim, q_isi, q_comp, q_at, q_in, q_get, q_get3, q_fld, q_res, res_p, q_nil, q_cons, consX_p, q_ite, q_rng, q_enum, q_zip,   s_nil, s_cons, seqX_n, seqX_r, seqX_x, seqX_b, seqX_c, s_asg, asgX_p, s_par, s_new, s_fz, s_clr, s_setix, s_augix, s_aug, s_app, s_ext, s_ife, iteX_t, iteX_f, s_for, s_whilL, s_newd0, s_newd1, s_setk, s_pop, s_par2, s_set2, set2X_n, s_ret, s_exp, s_raise, retD_r, retD_n, slot_z, slot_s, slotD_z, slotD_s, mlS_z, mlS_s, seqS_z, seqS_d, seqS_s, mdS_z, mdS_s, newS_l, fz_q, fzQ_l, fzQ_d, app_q, ext_q, set_q, get_q, getQ_l, put_q, putQ_d, it_e, it_1, it2_n, it2_c, put_n, put_t, puts_z, puts_c, clear_z, clear_c,   immS_z, immS_i, immS_u, immS_l, immS_d, M.pure_bind, M.fail_bind, M.exc_bind, M.opt_some, M.opt_none, List.set_cons_succ, List.set_cons_zero, List.map_cons, List.map_nil, List.cons_append, List.nil_append, List.replicate_succ, List.replicate_zero, List.length_cons, List.length_nil, Nat.reduceLT, Nat.reduceAdd, Nat.zero_lt_succ, Nat.lt_add_left_iff_pos, reduceIte, Option.bind_some, Option.map_some, truth_b, decide_true, decide_false, Bool.not_true, Bool.not_false, tail_ret, e1, e2, hq, hb, Bool.false_eq_true, if_false, if_true]
    · simp only [b_body, q_var, q_cst, q_con, q_tup, q_lst, q_op, opX_p, q_chn, q_and, q_or, q_and1, q_and2, q_or1, q_or2, andX_t, andX_f, orX_t, orX_f, q_not, negX_b, q_neg, q_ife, iteE_t, iteE_f, q_idx, q_slc, q_evo0, q_evo1, q_call, q_callk, q_evk0, q_evk1, q_prim, q_isi, q_comp, q_at, q_in, q_get, q_get3, q_fld, q_res, res_p, q_nil, q_cons, consX_p, q_ite, q_rng, q_enum, q_zip,   s_nil, s_cons, seqX_n, seqX_r, seqX_x, seqX_b, seqX_c, s_asg, asgX_p, s_par, s_new, s_fz, s_clr, s_setix, s_augix, s_aug, s_app, s_ext, s_ife, iteX_t, iteX_f, s_for, s_whilL, s_newd0, s_newd1, s_setk, s_pop, s_par2, s_set2, set2X_n, s_ret, s_exp, s_raise, retD_r, retD_n, slot_z, slot_s, slotD_z, slotD_s, mlS_z, mlS_s, seqS_z, seqS_d, seqS_s, mdS_z, mdS_s, newS_l, fz_q, fzQ_l, fzQ_d, app_q, ext_q, set_q, get_q, getQ_l, put_q, putQ_d, it_e, it_1, it2_n, it2_c, put_n, put_t, puts_z, puts_c, clear_z, clear_c,   immS_z, immS_i, immS_u, immS_l, immS_d, M.pure_bind, M.fail_bind, M.exc_bind, M.opt_some, M.opt_none, List.set_cons_succ, List.set_cons_zero, List.map_cons, List.map_nil, List.cons_append, List.nil_append, List.replicate_succ, List.replicate_zero, List.length_cons, List.length_nil, Nat.reduceLT, Nat.reduceAdd, Nat.zero_lt_succ, Nat.lt_add_left_iff_pos, reduceIte, Option.bind_some, Option.map_some, truth_b, decide_true, decide_false, Bool.not_true, Bool.not_false, tail_ret, e1, e2, hq, hb, if_true, e3]
/-- steps -/
def kD (x : Str × Int) : D := .tup [.str x.1, .int x.2]
theorem c31 {n : Nat} {p v : D} (hn : n ≤ 60) (hp : gd n p = true) (hq : protB p = false) : Φ 31 [p, v] = M.exc "InvalidProtocol" := by
  show body (upto FG 31) fuel b31 2 [p, v] = _
  unfold b31
  have e1 : upto FG 31 19 [p] = if protB p = true then M.pure .non else M.exc "InvalidProtocol" := by
    rw [up (by decide)]
    exact c19 hn hp
  simp only [b_body, q_var, q_cst, q_con, q_tup, q_lst, q_op, opX_p, q_chn, q_and, q_or, q_and1, q_and2, q_or1, q_or2, andX_t, andX_f, orX_t, orX_f, q_not, negX_b, q_neg, q_ife, iteE_t, iteE_f, q_idx, q_slc, q_evo0, q_evo1, q_call, q_callk, q_evk0, q_evk1, q_prim, q_isi, q_comp, q_at, q_in, q_get, q_get3, q_fld, q_res, res_p, q_nil, q_cons, consX_p, q_ite, q_rng, q_enum, q_zip,   s_nil, s_cons, seqX_n, seqX_r, seqX_x, seqX_b, seqX_c, s_asg, asgX_p, s_par, s_new, s_fz, s_clr, s_setix, s_augix, s_aug, s_app, s_ext, s_ife, iteX_t, iteX_f, s_for, s_whilL, s_newd0, s_newd1, s_setk, s_pop, s_par2, s_set2, set2X_n, s_ret, s_exp, s_raise, retD_r, retD_n, slot_z, slot_s, slotD_z, slotD_s, mlS_z, mlS_s, seqS_z, seqS_d, seqS_s, mdS_z, mdS_s, newS_l, fz_q, fzQ_l, fzQ_d, app_q, ext_q, set_q, get_q, getQ_l, put_q, putQ_d, it_e, it_1, it2_n, it2_c, put_n, put_t, puts_z, puts_c, clear_z, clear_c,   immS_z, immS_i, immS_u, immS_l, immS_d, M.pure_bind, M.fail_bind, M.exc_bind, M.opt_some, M.opt_none, List.set_cons_succ, List.set_cons_zero, List.map_cons, List.map_nil, List.cons_append, List.nil_append, List.replicate_succ, List.replicate_zero, List.length_cons, List.length_nil, Nat.reduceLT, Nat.reduceAdd, Nat.zero_lt_succ, Nat.lt_add_left_iff_pos, reduceIte, Option.bind_some, Option.map_some, truth_b, decide_true, decide_false, Bool.not_true, Bool.not_false, tail_ret, e1, hq, Bool.false_eq_true, if_false]
theorem c31c {n : Nat} {m : Int} {rs : List Rl} {v : D} (P : Prc m rs) (hv : gd n v = true) (hc : confB m v = false) : Φ 31 [pD m rs, v] = M.exc "InvalidConfiguration" := by
  show body (upto FG 31) fuel b31 2 [pD m rs, v] = _
  unfold b31
  have e1 : upto FG 31 19 [pD m rs] = M.pure .non := by
    rw [up (by decide), c19 (by omega) gd_pD, if_pos (prot_ok P)]
  have e2 : upto FG 31 28 [pD m rs, v] = M.exc "InvalidConfiguration" := by
    rw [up (by decide)]
    unfold pD
    rw [c28 hv, if_neg (by rw [hc]; exact Bool.false_ne_true)]
  simp only [b_body, q_var, q_cst, q_con, q_tup, q_lst, q_op, opX_p, q_chn, q_and, q_or, q_and1, q_and2, q_or1, q_or2, andX_t, andX_f, orX_t, orX_f, q_not, negX_b, q_neg, q_ife, iteE_t, iteE_f, q_idx, q_slc, q_evo0, q_evo1, q_call, q_callk, q_evk0, q_evk1, q_prim, q_isi, q_comp, q_at, q_in, q_get, q_get3, q_fld, q_res, res_p, q_nil, q_cons, consX_p, q_ite, q_rng, q_enum, q_zip,   s_nil, s_cons, seqX_n, seqX_r, seqX_x, seqX_b, seqX_c, s_asg, asgX_p, s_par, s_new, s_fz, s_clr, s_setix, s_augix, s_aug, s_app, s_ext, s_ife, iteX_t, iteX_f, s_for, s_whilL, s_newd0, s_newd1, s_setk, s_pop, s_par2, s_set2, set2X_n, s_ret, s_exp, s_raise, retD_r, retD_n, slot_z, slot_s, slotD_z, slotD_s, mlS_z, mlS_s, seqS_z, seqS_d, seqS_s, mdS_z, mdS_s, newS_l, fz_q, fzQ_l, fzQ_d, app_q, ext_q, set_q, get_q, getQ_l, put_q, putQ_d, it_e, it_1, it2_n, it2_c, put_n, put_t, puts_z, puts_c, clear_z, clear_c,   immS_z, immS_i, immS_u, immS_l, immS_d, M.pure_bind, M.fail_bind, M.exc_bind, M.opt_some, M.opt_none, List.set_cons_succ, List.set_cons_zero, List.map_cons, List.map_nil, List.cons_append, List.nil_append, List.replicate_succ, List.replicate_zero, List.length_cons, List.length_nil, Nat.reduceLT, Nat.reduceAdd, Nat.zero_lt_succ, Nat.lt_add_left_iff_pos, reduceIte, Option.bind_some, Option.map_some, truth_b, decide_true, decide_false, Bool.not_true, Bool.not_false, tail_ret, e1, e2]
theorem c31v {m : Int} {rs : List Rl} {c : List Int} (P : Prc m rs) (hc : confB m (tI c) = true) : Φ 31 [pD m rs, tI c] = M.pure (.tup ((mvs m rs c).map fun x => kD x.1)) := by
  show body (upto FG 31) fuel b31 2 [pD m rs, tI c] = _
  unfold b31
  have hm : (c.length : Int) = m := by
    have := (Bool.and_eq_true_iff.mp (conf_counts hc)).1
    rw [List.length_map] at this
    exact of_decide_eq_true this
  have e1 : upto FG 31 19 [pD m rs] = M.pure .non := by
    rw [up (by decide), c19 (by omega) gd_pD, if_pos (prot_ok P)]
  have e2 : upto FG 31 28 [pD m rs, tI c] = M.pure .non := by
    rw [up (by decide)]
    unfold pD
    rw [c28 (n := 1) gd_tI, if_pos hc]
  have e3 : upto FG 31 15 [pD m rs, tI c] = M.pure (.lst ((mvs m rs c).map mvD)) := by
    rw [up (by decide)]
    exact e15 P hm
  have w : ∀ l : List D, walkE (.lst l) = some l := fun _ => rfl
  have pt : ∀ l : List D, MC.prD .tuple [.lst l] = some (.tup l) := fun _ => rfl
  have cm : compE (upto FG 31) (.t [.n 2, .n 3]) (.var 2) [] [.imm (pD m rs), .imm (tI c), .un, .un] ((mvs m rs c).map mvD) = M.pure ((mvs m rs c).map fun x => kD x.1) := by
    rw [compE0 (fun d => match d with | .tup [k, _] => k | _ => .non) _ fun d hd => by
      obtain ⟨x, hx, rfl⟩ := List.mem_map.mp hd
      refine ⟨[.imm (pD m rs), .imm (tI c), .imm (kD x.1), .imm (tI x.2)], rfl, ?_⟩
      simp only [b_body, q_var, q_cst, q_con, q_tup, q_lst, q_op, opX_p, q_chn, q_and, q_or, q_and1, q_and2, q_or1, q_or2, andX_t, andX_f, orX_t, orX_f, q_not, negX_b, q_neg, q_ife, iteE_t, iteE_f, q_idx, q_slc, q_evo0, q_evo1, q_call, q_callk, q_evk0, q_evk1, q_prim, q_isi, q_comp, q_at, q_in, q_get, q_get3, q_fld, q_res, res_p, q_nil, q_cons, consX_p, q_ite, q_rng, q_enum, q_zip,   s_nil, s_cons, seqX_n, seqX_r, seqX_x, seqX_b, seqX_c, s_asg, asgX_p, s_par, s_new, s_fz, s_clr, s_setix, s_augix, s_aug, s_app, s_ext, s_ife, iteX_t, iteX_f, s_for, s_whilL, s_newd0, s_newd1, s_setk, s_pop, s_par2, s_set2, set2X_n, s_ret, s_exp, s_raise, retD_r, retD_n, slot_z, slot_s, slotD_z, slotD_s, mlS_z, mlS_s, seqS_z, seqS_d, seqS_s, mdS_z, mdS_s, newS_l, fz_q, fzQ_l, fzQ_d, app_q, ext_q, set_q, get_q, getQ_l, put_q, putQ_d, it_e, it_1, it2_n, it2_c, put_n, put_t, puts_z, puts_c, clear_z, clear_c,   immS_z, immS_i, immS_u, immS_l, immS_d, M.pure_bind, M.fail_bind, M.exc_bind, M.opt_some, M.opt_none, List.set_cons_succ, List.set_cons_zero, List.map_cons, List.map_nil, List.cons_append, List.nil_append, List.replicate_succ, List.replicate_zero, List.length_cons, List.length_nil, Nat.reduceLT, Nat.reduceAdd, Nat.zero_lt_succ, Nat.lt_add_left_iff_pos, reduceIte, Option.bind_some, Option.map_some, truth_b, decide_true, decide_false, Bool.not_true, Bool.not_false, tail_ret]
      rfl, List.map_map]
    rfl
  simp only [b_body, q_var, q_cst, q_con, q_tup, q_lst, q_op, opX_p, q_chn, q_and, q_or, q_and1, q_and2, q_or1, q_or2, andX_t, andX_f, orX_t, orX_f, q_not, negX_b, q_neg, q_ife, iteE_t, iteE_f, q_idx, q_slc, q_evo0, q_evo1, q_call, q_callk, q_evk0, q_evk1, q_prim, q_isi, q_comp, q_at, q_in, q_get, q_get3, q_fld, q_res, res_p, q_nil, q_cons, consX_p, q_ite, q_rng, q_enum, q_zip,   s_nil, s_cons, seqX_n, seqX_r, seqX_x, seqX_b, seqX_c, s_asg, asgX_p, s_par, s_new, s_fz, s_clr, s_setix, s_augix, s_aug, s_app, s_ext, s_ife, iteX_t, iteX_f, s_for, s_whilL, s_newd0, s_newd1, s_setk, s_pop, s_par2, s_set2, set2X_n, s_ret, s_exp, s_raise, retD_r, retD_n, slot_z, slot_s, slotD_z, slotD_s, mlS_z, mlS_s, seqS_z, seqS_d, seqS_s, mdS_z, mdS_s, newS_l, fz_q, fzQ_l, fzQ_d, app_q, ext_q, set_q, get_q, getQ_l, put_q, putQ_d, it_e, it_1, it2_n, it2_c, put_n, put_t, puts_z, puts_c, clear_z, clear_c,   immS_z, immS_i, immS_u, immS_l, immS_d, M.pure_bind, M.fail_bind, M.exc_bind, M.opt_some, M.opt_none, List.set_cons_succ, List.set_cons_zero, List.map_cons, List.map_nil, List.cons_append, List.nil_append, List.replicate_succ, List.replicate_zero, List.length_cons, List.length_nil, Nat.reduceLT, Nat.reduceAdd, Nat.zero_lt_succ, Nat.lt_add_left_iff_pos, reduceIte, Option.bind_some, Option.map_some, truth_b, decide_true, decide_false, Bool.not_true, Bool.not_false, tail_ret, e1, e2, e3, w, cm, pt]
/-! ### is_step_shape, moved, after -/
def stepB : D → Bool
  | .tup [.str _, .int i] => decide (0 ≤ i)
  | _ => false
theorem c32 {n : Nat} {v : D} (h : gd n v = true) : Φ 32 [v] = M.pure (.bl (stepB v)) := by
  show body (upto FG 32) fuel b32 0 [v] = _
  unfold b32
  cases v with
  | tup l =>
    obtain ⟨k, rfl, hk⟩ := gd_tup h
    have it : isTy (.tup l) .tuple = some true := rfl
    match l, hk with
    | [], _ => kernel_rfl
    | [a], _ => cases a <;> kernel_rfl
    | a :: b :: c :: r, _ =>
      have pl : MC.prD .len [.tup (a :: b :: c :: r)] = some (.int ((a :: b :: c :: r).length : Nat)) := rfl
      have ne : decide (((a :: b :: c :: r).length : Int) = 2) = false := decide_eq_false (by simp only [List.length_cons]; omega)
      have hs : stepB (.tup (a :: b :: c :: r)) = false := by cases a <;> first | rfl | (cases b <;> rfl)
      rw [hs]
      simp only [b_body, q_var, q_cst, q_op, q_and, q_and2, q_isi, q_prim, q_nil, q_cons, consX_p, s_cons, s_ret, slotD_z, List.map_cons, List.map_nil, List.cons_append, List.nil_append, List.replicate_zero, M.pure_bind, M.opt_some, it, Option.map_some, andX_t, pl, opX_p, op_eqi, ne, andX_f, seqX_r, retD_r]
    | [a, b], hk =>
      have ga := gd_plain (gds_mem hk (show a ∈ [a, b] by simp))
      have gb := gd_plain (gds_mem hk (show b ∈ [a, b] by simp))
      have pl : MC.prD .len [.tup [a, b]] = some (.int 2) := rfl
      have i0 : ixOf (.tup [a, b]) (.int 0) = some a := rfl
      have i1 : ixOf (.tup [a, b]) (.int 1) = some b := rfl
      have e : upto FG 32 20 [b] = M.pure (.bl (countB b)) := by
        rw [up (by decide)]
        exact toM fun g => e20 gb
      have d2 : decide ((2 : Int) = 2) = true := rfl
      cases a with
      | str x =>
        have iz : (isTy (.str x) .str).map D.bl = some (.bl true) := rfl
        have it2 : (isTy (.tup [.str x, b]) .tuple).map D.bl = some (.bl true) := rfl
        simp only [b_body, q_var, q_cst, q_con, q_tup, q_lst, q_op, opX_p, q_chn, q_and, q_or, q_and1, q_and2, q_or1, q_or2, andX_t, andX_f, orX_t, orX_f, q_not, negX_b, q_neg, q_ife, iteE_t, iteE_f, q_idx, q_slc, q_evo0, q_evo1, q_call, q_callk, q_evk0, q_evk1, q_prim, q_isi, q_comp, q_at, q_in, q_get, q_get3, q_fld, q_res, res_p, q_nil, q_cons, consX_p, q_ite, q_rng, q_enum, q_zip,   s_nil, s_cons, seqX_n, seqX_r, seqX_x, seqX_b, seqX_c, s_asg, asgX_p, s_par, s_new, s_fz, s_clr, s_setix, s_augix, s_aug, s_app, s_ext, s_ife, iteX_t, iteX_f, s_for, s_whilL, s_newd0, s_newd1, s_setk, s_pop, s_par2, s_set2, set2X_n, s_ret, s_exp, s_raise, retD_r, retD_n, slot_z, slot_s, slotD_z, slotD_s, mlS_z, mlS_s, seqS_z, seqS_d, seqS_s, mdS_z, mdS_s, newS_l, fz_q, fzQ_l, fzQ_d, app_q, ext_q, set_q, get_q, getQ_l, put_q, putQ_d, it_e, it_1, it2_n, it2_c, put_n, put_t, puts_z, puts_c, clear_z, clear_c,   immS_z, immS_i, immS_u, immS_l, immS_d, M.pure_bind, M.fail_bind, M.exc_bind, M.opt_some, M.opt_none, List.set_cons_succ, List.set_cons_zero, List.map_cons, List.map_nil, List.cons_append, List.nil_append, List.replicate_succ, List.replicate_zero, List.length_cons, List.length_nil, Nat.reduceLT, Nat.reduceAdd, Nat.zero_lt_succ, Nat.lt_add_left_iff_pos, reduceIte, Option.bind_some, Option.map_some, truth_b, decide_true, decide_false, Bool.not_true, Bool.not_false, tail_ret, it2, pl, op_eqi, i0, iz, i1, e]
        cases b <;> rfl
      | _ => first | exact (Bool.false_ne_true ga).elim | kernel_rfl
  | _ => first | exact (Bool.false_ne_true (gd_plain h)).elim | kernel_rfl
end GL
namespace GL
open PySem PySem.Spec L2 MC
/-! ### dict(moves(..)) -/
def kk (x : Str × Int) : List Key := [.inr x.1, .inl x.2]
theorem kk_inj {x y : Str × Int} (h : kk x = kk y) : x = y := by
  unfold kk at h
  injection h with h1 h2
  injection h2 with h2
  injection h1 with h1
  injection h2 with h2
  exact Prod.ext h1 h2
theorem look_mv (k : List Key) : ∀ L : List Mv, lookT k (L.map fun x => kD x.1) (L.map fun x => tI x.2) = (L.find? fun x => decide (kk x.1 = k)).map fun x => tI x.2
  | [] => rfl
  | x :: L => by
    rw [List.map_cons, List.map_cons, lookT, show keyTOf (kD x.1) = some (kk x.1) from rfl, List.find?_cons]
    by_cases h : kk x.1 = k
    · rw [if_pos (by rw [h]), decide_eq_true h]
      rfl
    · rw [if_neg (fun z => h (Option.some.inj z)), decide_eq_false h]
      exact look_mv k L
theorem dict_go : ∀ (L K : List Mv), ((K ++ L).map (·.1)).Nodup → (K ++ L).length ≤ 1000 → dictOf true (L.map mvD) (K.map fun x => kD x.1) (K.map fun x => tI x.2) = some ((K ++ L).map (fun x => kD x.1), (K ++ L).map fun x => tI x.2)
  | [], K, _, _ => by rw [List.append_nil]; rfl
  | x :: L, K, nd, hl => by
    have hno : (lookT (kk x.1) (K.map fun x => kD x.1) (K.map fun x => tI x.2)).isSome = false := by
      rw [look_mv]
      have : (K.find? fun y => decide (kk y.1 = kk x.1)) = none := by
        rw [List.find?_eq_none]
        intro y hy hd
        have e := kk_inj (of_decide_eq_true hd)
        rw [List.map_append, List.nodup_append] at nd
        exact nd.2.2 _ (List.mem_map.mpr ⟨y, hy, rfl⟩) _ (List.mem_map.mpr ⟨x, List.mem_cons_self, rfl⟩) e
      rw [this]
      rfl
    have hlen : (K.map fun x => kD x.1).length < sizeLine := by
      rw [List.length_map, sizeLine_eq]
      rw [List.length_append, List.length_cons] at hl
      omega
    have e : dPut true (K.map fun x => kD x.1) (K.map fun x => tI x.2) (kD x.1) (tI x.2) = some ((K ++ [x]).map (fun x => kD x.1), (K ++ [x]).map fun x => tI x.2) := by
      unfold dPut
      rw [if_pos hlen]
      show (some (kk x.1)).map _ = _
      rw [Option.map_some]
      rw [hno, if_neg Bool.false_ne_true, List.map_append, List.map_append]
      rfl
    rw [List.map_cons, mvD, show D.tup [D.tup [D.str x.1.1, D.int x.1.2], tI x.2] = D.tup [kD x.1, tI x.2] from rfl, dictOf, e, Option.bind_some]
    have := dict_go L (K ++ [x]) (by rw [List.append_assoc]; exact nd) (by rw [List.append_assoc]; exact hl)
    rw [this, List.append_assoc]
    rfl
theorem dict_mv {L : List Mv} (nd : (L.map (·.1)).Nodup) (hl : L.length ≤ 1000) : MC.prD .dictT [.lst (L.map mvD)] = some (.dct true (L.map fun x => kD x.1) (L.map fun x => tI x.2)) := by
  show (if (L.map mvD).length ≤ sizeLine then (dictOf true (L.map mvD) [] []).map (fun p => D.dct true p.1 p.2) else none) = _
  rw [if_pos (by rw [List.length_map, sizeLine_eq]; omega), show dictOf true (L.map mvD) [] [] = _ from dict_go L [] nd hl]
  rfl
theorem irange_nodup {lo hi : Int} : (irange lo hi).Nodup := by
  unfold irange
  rw [List.Nodup, List.pairwise_map]
  exact List.pairwise_lt_range.imp fun h => by omega
theorem zip_nodup {α : Type} (l : List α) : (l.zipIdx.map (·.2)).Nodup := by
  rw [List.zipIdx_map_snd]
  exact List.nodup_range'
theorem mvs_nodup {m : Int} {rs : List Rl} {c : List Int} : ((mvs m rs c).map (·.1)).Nodup := by
  unfold mvs
  rw [List.map_append, List.map_map, List.map_map, List.nodup_append]
  refine ⟨?_, ?_, ?_⟩
  · rw [List.Nodup, List.pairwise_map]
    exact (irange_nodup.sublist List.filter_sublist).imp fun h e => h (congrArg Prod.snd e)
  · rw [List.Nodup, List.pairwise_map]
    have := (zip_nodup rs)
    rw [List.Nodup, List.pairwise_map] at this
    refine (this.sublist List.filter_sublist).imp fun {a b} h e => h ?_
    have : (a.2 : Int) = b.2 := congrArg Prod.snd e
    omega
  · intro a ha b hb e
    obtain ⟨x, _, rfl⟩ := List.mem_map.mp ha
    obtain ⟨y, _, rfl⟩ := List.mem_map.mp hb
    have : ("drop" : Str) = "rule" := congrArg Prod.fst e
    exact absurd this (by decide +kernel)
theorem mvs_len {m : Int} {rs : List Rl} {c : List Int} (h : m ≤ 100) (h2 : rs.length ≤ 100) : (mvs m rs c).length ≤ 200 := by
  unfold mvs
  rw [List.length_append, List.length_map, List.length_map]
  have h3 := List.length_filter_le (fun s => decide (0 < ge c s)) (irange 1 m)
  have h4 := List.length_filter_le (fun p : Rl × Nat => poss c p.1) rs.zipIdx
  rw [irange_len] at h3
  rw [List.length_zipIdx] at h4
  omega
/-! ### moved -/
def fnd (L : List Mv) (v : D) : Option (List Int) := if stepB v = true then (L.find? fun x => decide (some (kk x.1) = keyTOf v)).map (·.2) else none
theorem step_of {v : D} (h : stepB v = true) : ∃ w i, v = kD (w, i) ∧ 0 ≤ i := by
  unfold stepB at h
  split at h
  · rename_i w i
    exact ⟨w, i, rfl, of_decide_eq_true h⟩
  · cases h
theorem c33 {n : Nat} {m : Int} {rs : List Rl} {c : List Int} {v : D} (P : Prc m rs) (hm : (c.length : Int) = m) (hv : gd n v = true) : Φ 33 [pD m rs, tI c, v] = M.pure (match fnd (mvs m rs c) v with | some c' => tI c' | none => .non) := by
  show body (upto FG 33) fuel b33 0 [pD m rs, tI c, v] = _
  unfold b33
  have lo := P.lo
  have hi := P.hi
  have hln := P.len
  have e1 : upto FG 33 32 [v] = M.pure (.bl (stepB v)) := by
    rw [up (by decide)]
    exact c32 hv
  have e2 : upto FG 33 15 [pD m rs, tI c] = M.pure (.lst ((mvs m rs c).map mvD)) := by
    rw [up (by decide)]
    exact e15 P hm
  have dm := dict_mv (L := mvs m rs c) mvs_nodup (by have := mvs_len (c := c) (m := m) (rs := rs) (by omega) (by omega); omega)
  cases hs : stepB v with
  | false =>
    have : fnd (mvs m rs c) v = none := by unfold fnd; rw [hs, if_neg Bool.false_ne_true]
    simp only [b_body, q_var, q_cst, q_con, q_tup, q_lst, q_op, opX_p, q_chn, q_and, q_or, q_and1, q_and2, q_or1, q_or2, andX_t, andX_f, orX_t, orX_f, q_not, negX_b, q_neg, q_ife, iteE_t, iteE_f, q_idx, q_slc, q_evo0, q_evo1, q_call, q_callk, q_evk0, q_evk1, q_prim, q_isi, q_comp, q_at, q_in, q_get, q_get3, q_fld, q_res, res_p, q_nil, q_cons, consX_p, q_ite, q_rng, q_enum, q_zip,   s_nil, s_cons, seqX_n, seqX_r, seqX_x, seqX_b, seqX_c, s_asg, asgX_p, s_par, s_new, s_fz, s_clr, s_setix, s_augix, s_aug, s_app, s_ext, s_ife, iteX_t, iteX_f, s_for, s_whilL, s_newd0, s_newd1, s_setk, s_pop, s_par2, s_set2, set2X_n, s_ret, s_exp, s_raise, retD_r, retD_n, slot_z, slot_s, slotD_z, slotD_s, mlS_z, mlS_s, seqS_z, seqS_d, seqS_s, mdS_z, mdS_s, newS_l, fz_q, fzQ_l, fzQ_d, app_q, ext_q, set_q, get_q, getQ_l, put_q, putQ_d, it_e, it_1, it2_n, it2_c, put_n, put_t, puts_z, puts_c, clear_z, clear_c,   immS_z, immS_i, immS_u, immS_l, immS_d, M.pure_bind, M.fail_bind, M.exc_bind, M.opt_some, M.opt_none, List.set_cons_succ, List.set_cons_zero, List.map_cons, List.map_nil, List.cons_append, List.nil_append, List.replicate_succ, List.replicate_zero, List.length_cons, List.length_nil, Nat.reduceLT, Nat.reduceAdd, Nat.zero_lt_succ, Nat.lt_add_left_iff_pos, reduceIte, Option.bind_some, Option.map_some, truth_b, decide_true, decide_false, Bool.not_true, Bool.not_false, tail_ret, e1, hs, this]
  | true =>
    obtain ⟨w, i, rfl, hi0⟩ := step_of hs
    have gt : getDc (.dct true ((mvs m rs c).map fun x => kD x.1) ((mvs m rs c).map fun x => tI x.2)) (kD (w, i)) .non = some (match fnd (mvs m rs c) (kD (w, i)) with | some c' => tI c' | none => .non) := by
      unfold getDc dLook fnd
      rw [hs, if_pos rfl, show keyTOf (kD (w, i)) = some (kk (w, i)) from rfl]
      show some ((lookT (kk (w, i)) _ _).getD .non) = _
      rw [look_mv]
      have : (fun x : Mv => decide (kk x.1 = kk (w, i))) = fun x => decide (some (kk x.1) = some (kk (w, i))) := by
        funext x
        exact decide_eq_decide.mpr ⟨fun h => by rw [h], fun h => Option.some.inj h⟩
      rw [this]
      cases (mvs m rs c).find? fun x => decide (some (kk x.1) = some (kk (w, i))) <;> rfl
    have dk : ∀ ks vs, dctOk (.dct true ks vs) = some () := fun _ _ => rfl
    simp only [b_body, q_var, q_cst, q_con, q_tup, q_lst, q_op, opX_p, q_chn, q_and, q_or, q_and1, q_and2, q_or1, q_or2, andX_t, andX_f, orX_t, orX_f, q_not, negX_b, q_neg, q_ife, iteE_t, iteE_f, q_idx, q_slc, q_evo0, q_evo1, q_call, q_callk, q_evk0, q_evk1, q_prim, q_isi, q_comp, q_at, q_in, q_get, q_get3, q_fld, q_res, res_p, q_nil, q_cons, consX_p, q_ite, q_rng, q_enum, q_zip,   s_nil, s_cons, seqX_n, seqX_r, seqX_x, seqX_b, seqX_c, s_asg, asgX_p, s_par, s_new, s_fz, s_clr, s_setix, s_augix, s_aug, s_app, s_ext, s_ife, iteX_t, iteX_f, s_for, s_whilL, s_newd0, s_newd1, s_setk, s_pop, s_par2, s_set2, set2X_n, s_ret, s_exp, s_raise, retD_r, retD_n, slot_z, slot_s, slotD_z, slotD_s, mlS_z, mlS_s, seqS_z, seqS_d, seqS_s, mdS_z, mdS_s, newS_l, fz_q, fzQ_l, fzQ_d, app_q, ext_q, set_q, get_q, getQ_l, put_q, putQ_d, it_e, it_1, it2_n, it2_c, put_n, put_t, puts_z, puts_c, clear_z, clear_c,   immS_z, immS_i, immS_u, immS_l, immS_d, M.pure_bind, M.fail_bind, M.exc_bind, M.opt_some, M.opt_none, List.set_cons_succ, List.set_cons_zero, List.map_cons, List.map_nil, List.cons_append, List.nil_append, List.replicate_succ, List.replicate_zero, List.length_cons, List.length_nil, Nat.reduceLT, Nat.reduceAdd, Nat.zero_lt_succ, Nat.lt_add_left_iff_pos, reduceIte, Option.bind_some, Option.map_some, truth_b, decide_true, decide_false, Bool.not_true, Bool.not_false, tail_ret, e1, hs, e2, dm, dk, gt]
/-! ### after -/
theorem c34 {n : Nat} {m : Int} {rs : List Rl} {c : List Int} {v : D} (P : Prc m rs) (hc : confB m (tI c) = true) (hv : gd n v = true) : Φ 34 [pD m rs, tI c, v] = match fnd (mvs m rs c) v with | some c' => M.pure (tI c') | none => M.exc "InvalidStep" := by
  show body (upto FG 34) fuel b34 1 [pD m rs, tI c, v] = _
  unfold b34
  have hm : (c.length : Int) = m := by
    have := (Bool.and_eq_true_iff.mp (conf_counts hc)).1
    rw [List.length_map] at this
    exact of_decide_eq_true this
  have e1 : upto FG 34 19 [pD m rs] = M.pure .non := by
    rw [up (by decide), c19 (by omega) gd_pD, if_pos (prot_ok P)]
  have e2 : upto FG 34 28 [pD m rs, tI c] = M.pure .non := by
    rw [up (by decide)]
    unfold pD
    rw [c28 (n := 1) gd_tI, if_pos hc]
  have e3 : upto FG 34 33 [pD m rs, tI c, v] = M.pure (match fnd (mvs m rs c) v with | some c' => tI c' | none => .non) := by
    rw [up (by decide)]
    exact c33 P hm hv
  have o1 : opD .isN .non .non = some (.bl true) := rfl
  have o2 : ∀ l, opD .isN (tI l) .non = some (.bl false) := fun _ => rfl
  cases hf : fnd (mvs m rs c) v with
  | none => rw [hf] at e3; simp only [b_body, q_var, q_cst, q_con, q_tup, q_lst, q_op, opX_p, q_chn, q_and, q_or, q_and1, q_and2, q_or1, q_or2, andX_t, andX_f, orX_t, orX_f, q_not, negX_b, q_neg, q_ife, iteE_t, iteE_f, q_idx, q_slc, q_evo0, q_evo1, q_call, q_callk, q_evk0, q_evk1, q_prim, q_isi, q_comp, q_at, q_in, q_get, q_get3, q_fld, q_res, res_p, q_nil, q_cons, consX_p, q_ite, q_rng, q_enum, q_zip,   s_nil, s_cons, seqX_n, seqX_r, seqX_x, seqX_b, seqX_c, s_asg, asgX_p, s_par, s_new, s_fz, s_clr, s_setix, s_augix, s_aug, s_app, s_ext, s_ife, iteX_t, iteX_f, s_for, s_whilL, s_newd0, s_newd1, s_setk, s_pop, s_par2, s_set2, set2X_n, s_ret, s_exp, s_raise, retD_r, retD_n, slot_z, slot_s, slotD_z, slotD_s, mlS_z, mlS_s, seqS_z, seqS_d, seqS_s, mdS_z, mdS_s, newS_l, fz_q, fzQ_l, fzQ_d, app_q, ext_q, set_q, get_q, getQ_l, put_q, putQ_d, it_e, it_1, it2_n, it2_c, put_n, put_t, puts_z, puts_c, clear_z, clear_c,   immS_z, immS_i, immS_u, immS_l, immS_d, M.pure_bind, M.fail_bind, M.exc_bind, M.opt_some, M.opt_none, List.set_cons_succ, List.set_cons_zero, List.map_cons, List.map_nil, List.cons_append, List.nil_append, List.replicate_succ, List.replicate_zero, List.length_cons, List.length_nil, Nat.reduceLT, Nat.reduceAdd, Nat.zero_lt_succ, Nat.lt_add_left_iff_pos, reduceIte, Option.bind_some, Option.map_some, truth_b, decide_true, decide_false, Bool.not_true, Bool.not_false, tail_ret, e1, e2, e3, o1]
  | some c' => rw [hf] at e3; simp only [b_body, q_var, q_cst, q_con, q_tup, q_lst, q_op, opX_p, q_chn, q_and, q_or, q_and1, q_and2, q_or1, q_or2, andX_t, andX_f, orX_t, orX_f, q_not, negX_b, q_neg, q_ife, iteE_t, iteE_f, q_idx, q_slc, q_evo0, q_evo1, q_call, q_callk, q_evk0, q_evk1, q_prim, q_isi, q_comp, q_at, q_in, q_get, q_get3, q_fld, q_res, res_p, q_nil, q_cons, consX_p, q_ite, q_rng, q_enum, q_zip,   s_nil, s_cons, seqX_n, seqX_r, seqX_x, seqX_b, seqX_c, s_asg, asgX_p, s_par, s_new, s_fz, s_clr, s_setix, s_augix, s_aug, s_app, s_ext, s_ife, iteX_t, iteX_f, s_for, s_whilL, s_newd0, s_newd1, s_setk, s_pop, s_par2, s_set2, set2X_n, s_ret, s_exp, s_raise, retD_r, retD_n, slot_z, slot_s, slotD_z, slotD_s, mlS_z, mlS_s, seqS_z, seqS_d, seqS_s, mdS_z, mdS_s, newS_l, fz_q, fzQ_l, fzQ_d, app_q, ext_q, set_q, get_q, getQ_l, put_q, putQ_d, it_e, it_1, it2_n, it2_c, put_n, put_t, puts_z, puts_c, clear_z, clear_c,   immS_z, immS_i, immS_u, immS_l, immS_d, M.pure_bind, M.fail_bind, M.exc_bind, M.opt_some, M.opt_none, List.set_cons_succ, List.set_cons_zero, List.map_cons, List.map_nil, List.cons_append, List.nil_append, List.replicate_succ, List.replicate_zero, List.length_cons, List.length_nil, Nat.reduceLT, Nat.reduceAdd, Nat.zero_lt_succ, Nat.lt_add_left_iff_pos, reduceIte, Option.bind_some, Option.map_some, truth_b, decide_true, decide_false, Bool.not_true, Bool.not_false, tail_ret, e1, e2, e3, o2]
theorem c34p {n : Nat} {p v u : D} (hn : n ≤ 60) (hp : gd n p = true) (hq : protB p = false) : Φ 34 [p, v, u] = M.exc "InvalidProtocol" := by
  show body (upto FG 34) fuel b34 1 [p, v, u] = _
  unfold b34
  have e1 : upto FG 34 19 [p] = M.exc "InvalidProtocol" := by
    rw [up (by decide), c19 hn hp, if_neg (by rw [hq]; exact Bool.false_ne_true)]
  simp only [b_body, q_var, q_cst, q_con, q_tup, q_lst, q_op, opX_p, q_chn, q_and, q_or, q_and1, q_and2, q_or1, q_or2, andX_t, andX_f, orX_t, orX_f, q_not, negX_b, q_neg, q_ife, iteE_t, iteE_f, q_idx, q_slc, q_evo0, q_evo1, q_call, q_callk, q_evk0, q_evk1, q_prim, q_isi, q_comp, q_at, q_in, q_get, q_get3, q_fld, q_res, res_p, q_nil, q_cons, consX_p, q_ite, q_rng, q_enum, q_zip,   s_nil, s_cons, seqX_n, seqX_r, seqX_x, seqX_b, seqX_c, s_asg, asgX_p, s_par, s_new, s_fz, s_clr, s_setix, s_augix, s_aug, s_app, s_ext, s_ife, iteX_t, iteX_f, s_for, s_whilL, s_newd0, s_newd1, s_setk, s_pop, s_par2, s_set2, set2X_n, s_ret, s_exp, s_raise, retD_r, retD_n, slot_z, slot_s, slotD_z, slotD_s, mlS_z, mlS_s, seqS_z, seqS_d, seqS_s, mdS_z, mdS_s, newS_l, fz_q, fzQ_l, fzQ_d, app_q, ext_q, set_q, get_q, getQ_l, put_q, putQ_d, it_e, it_1, it2_n, it2_c, put_n, put_t, puts_z, puts_c, clear_z, clear_c,   immS_z, immS_i, immS_u, immS_l, immS_d, M.pure_bind, M.fail_bind, M.exc_bind, M.opt_some, M.opt_none, List.set_cons_succ, List.set_cons_zero, List.map_cons, List.map_nil, List.cons_append, List.nil_append, List.replicate_succ, List.replicate_zero, List.length_cons, List.length_nil, Nat.reduceLT, Nat.reduceAdd, Nat.zero_lt_succ, Nat.lt_add_left_iff_pos, reduceIte, Option.bind_some, Option.map_some, truth_b, decide_true, decide_false, Bool.not_true, Bool.not_false, tail_ret, e1]
theorem c34c {n : Nat} {m : Int} {rs : List Rl} {v u : D} (P : Prc m rs) (hv : gd n v = true) (hc : confB m v = false) : Φ 34 [pD m rs, v, u] = M.exc "InvalidConfiguration" := by
  show body (upto FG 34) fuel b34 1 [pD m rs, v, u] = _
  unfold b34
  have e1 : upto FG 34 19 [pD m rs] = M.pure .non := by
    rw [up (by decide), c19 (by omega) gd_pD, if_pos (prot_ok P)]
  have e2 : upto FG 34 28 [pD m rs, v] = M.exc "InvalidConfiguration" := by
    rw [up (by decide)]
    unfold pD
    rw [c28 hv, if_neg (by rw [hc]; exact Bool.false_ne_true)]
  simp only [b_body, q_var, q_cst, q_con, q_tup, q_lst, q_op, opX_p, q_chn, q_and, q_or, q_and1, q_and2, q_or1, q_or2, andX_t, andX_f, orX_t, orX_f, q_not, negX_b, q_neg, q_ife, iteE_t, iteE_f, q_idx, q_slc, q_evo0, q_evo1, q_call, q_callk, q_evk0, q_evk1, q_prim, q_isi, q_comp, q_at, q_in, q_get, q_get3, q_fld, q_res, res_p, q_nil, q_cons, consX_p, q_ite, q_rng, q_enum, q_zip,   s_nil, s_cons, seqX_n, seqX_r, seqX_x, seqX_b, seqX_c, s_asg, asgX_p, s_par, s_new, s_fz, s_clr, s_setix, s_augix, s_aug, s_app, s_ext, s_ife, iteX_t, iteX_f, s_for, s_whilL, s_newd0, s_newd1, s_setk, s_pop, s_par2, s_set2, set2X_n, s_ret, s_exp, s_raise, retD_r, retD_n, slot_z, slot_s, slotD_z, slotD_s, mlS_z, mlS_s, seqS_z, seqS_d, seqS_s, mdS_z, mdS_s, newS_l, fz_q, fzQ_l, fzQ_d, app_q, ext_q, set_q, get_q, getQ_l, put_q, putQ_d, it_e, it_1, it2_n, it2_c, put_n, put_t, puts_z, puts_c, clear_z, clear_c,   immS_z, immS_i, immS_u, immS_l, immS_d, M.pure_bind, M.fail_bind, M.exc_bind, M.opt_some, M.opt_none, List.set_cons_succ, List.set_cons_zero, List.map_cons, List.map_nil, List.cons_append, List.nil_append, List.replicate_succ, List.replicate_zero, List.length_cons, List.length_nil, Nat.reduceLT, Nat.reduceAdd, Nat.zero_lt_succ, Nat.lt_add_left_iff_pos, reduceIte, Option.bind_some, Option.map_some, truth_b, decide_true, decide_false, Bool.not_true, Bool.not_false, tail_ret, e1, e2]
theorem c23p {n : Nat} {p v : D} (hn : n ≤ 60) (hp : gd n p = true) (hq : protB p = false) : Φ 23 [p, v] = M.exc "InvalidProtocol" := by
  show body (upto FG 23) fuel b23 0 [p, v] = _
  unfold b23
  have e1 : upto FG 23 19 [p] = M.exc "InvalidProtocol" := by
    rw [up (by decide), c19 hn hp, if_neg (by rw [hq]; exact Bool.false_ne_true)]
  simp only [b_body, q_var, q_cst, q_con, q_tup, q_lst, q_op, opX_p, q_chn, q_and, q_or, q_and1, q_and2, q_or1, q_or2, andX_t, andX_f, orX_t, orX_f, q_not, negX_b, q_neg, q_ife, iteE_t, iteE_f, q_idx, q_slc, q_evo0, q_evo1, q_call, q_callk, q_evk0, q_evk1, q_prim, q_isi, q_comp, q_at, q_in, q_get, q_get3, q_fld, q_res, res_p, q_nil, q_cons, consX_p, q_ite, q_rng, q_enum, q_zip,   s_nil, s_cons, seqX_n, seqX_r, seqX_x, seqX_b, seqX_c, s_asg, asgX_p, s_par, s_new, s_fz, s_clr, s_setix, s_augix, s_aug, s_app, s_ext, s_ife, iteX_t, iteX_f, s_for, s_whilL, s_newd0, s_newd1, s_setk, s_pop, s_par2, s_set2, set2X_n, s_ret, s_exp, s_raise, retD_r, retD_n, slot_z, slot_s, slotD_z, slotD_s, mlS_z, mlS_s, seqS_z, seqS_d, seqS_s, mdS_z, mdS_s, newS_l, fz_q, fzQ_l, fzQ_d, app_q, ext_q, set_q, get_q, getQ_l, put_q, putQ_d, it_e, it_1, it2_n, it2_c, put_n, put_t, puts_z, puts_c, clear_z, clear_c,   immS_z, immS_i, immS_u, immS_l, immS_d, M.pure_bind, M.fail_bind, M.exc_bind, M.opt_some, M.opt_none, List.set_cons_succ, List.set_cons_zero, List.map_cons, List.map_nil, List.cons_append, List.nil_append, List.replicate_succ, List.replicate_zero, List.length_cons, List.length_nil, Nat.reduceLT, Nat.reduceAdd, Nat.zero_lt_succ, Nat.lt_add_left_iff_pos, reduceIte, Option.bind_some, Option.map_some, truth_b, decide_true, decide_false, Bool.not_true, Bool.not_false, tail_ret, e1]
/-- the step that was taken is found -/
theorem fnd_mem {L : List Mv} (nd : (L.map (·.1)).Nodup) {x : Mv} (hx : x ∈ L) (h0 : 0 ≤ x.1.2) : fnd L (kD x.1) = some x.2 := by
  have hs : stepB (kD x.1) = true := decide_eq_true h0
  unfold fnd
  rw [hs, if_pos rfl, show keyTOf (kD x.1) = some (kk x.1) from rfl]
  have : (L.find? fun y => decide (some (kk y.1) = some (kk x.1))) = some x := by
    clear hs
    induction L with
    | nil => cases hx
    | cons y L ih =>
      rw [List.map_cons] at nd
      obtain ⟨n1, n2⟩ := List.nodup_cons.mp nd
      rw [List.find?_cons]
      rcases List.mem_cons.mp hx with rfl | hx
      · rw [decide_eq_true rfl]
      · rw [decide_eq_false (fun z => n1 (by rw [kk_inj (Option.some.inj z)]; exact List.mem_map.mpr ⟨x, hx, rfl⟩))]
        exact ih n2 hx
  rw [this]
  rfl
theorem mvs_pos {m : Int} {rs : List Rl} {c : List Int} {x : Mv} (h : x ∈ mvs m rs c) : 0 ≤ x.1.2 := by
  unfold mvs at h
  rcases List.mem_append.mp h with h | h
  · obtain ⟨s, hs, rfl⟩ := List.mem_map.mp h
    have := (mem_irange.mp (List.mem_filter.mp hs).1).1
    show 0 ≤ s
    omega
  · obtain ⟨p, hs, rfl⟩ := List.mem_map.mp h
    show 0 ≤ (p.2 : Int)
    omega
end GL
namespace GL
open PySem PySem.Spec L2 MC
/-! ### for laws -/
theorem exs_p {Φ : Ph} {fuel : Nat} {s : S} {r : List S} {σ σ' : List Sl} (h : ex Φ fuel s σ = M.pure (.next σ')) : exs Φ fuel (s :: r) σ = exs Φ fuel r σ' := by rw [s_cons, h, seqX_n]
theorem sum_tI {l : List Int} : sumD (tI l) = l.sum := by
  show (match asInts (l.map D.int) with
    | some ns => ns.sum
    | none => 0) = _
  obtain ⟨ns, e, h⟩ := asInts_of (l := l.map D.int) fun d hd => by obtain ⟨x, _, rfl⟩ := List.mem_map.mp hd; exact ⟨x, rfl⟩
  rw [e]
  have : l = ns := by
    have inj : ∀ a b : List Int, a.map D.int = b.map D.int → a = b := fun a => by
      induction a with
      | nil => intro b h; cases b with
        | nil => rfl
        | cons _ _ => cases h
      | cons x a ih => intro b h; cases b with
        | nil => cases h
        | cons y b =>
          injection h with h1 h2
          injection h1 with h1
          rw [h1, ih b h2]
    exact inj _ _ h
  rw [this]
theorem counts_tI {m : Int} {l : List Int} : countsB m (tI l) = (decide ((l.length : Int) = m) && l.all fun x => decide (0 ≤ x)) := by
  show (decide (((l.map D.int).length : Int) = m) && (l.map D.int).all countB) = _
  rw [List.length_map, List.all_map]
  rfl
theorem conf_tI {m : Int} {l : List Int} : confB m (tI l) = ((decide ((l.length : Int) = m) && l.all fun x => decide (0 ≤ x)) && (decide (1 ≤ l.sum) && decide (l.sum ≤ 8))) := by
  unfold confB
  rw [sum_tI, counts_tI]
theorem conf_ok {m : Int} {l : List Int} (C : Cf m l) (h1 : 1 ≤ l.sum) (h2 : l.sum ≤ 8) : confB m (tI l) = true := by
  rw [conf_tI, decide_eq_true C.1, decide_eq_true h1, decide_eq_true h2]
  have : (l.all fun x => decide (0 ≤ x)) = true := List.all_eq_true.mpr fun x hx => decide_eq_true (C.2 x hx)
  rw [this]
  rfl
theorem sum_rep (n : Nat) (x : Int) : (List.replicate n x).sum = n * x := by
  induction n with
  | zero => simp
  | succ n ih => rw [List.replicate_succ, List.sum_cons, ih, Int.natCast_add, Int.add_mul]; omega
theorem eq_tI {a b : List Int} : eqD (tI a) (tI b) = decide (a = b) := by
  show PyData.eqv (.tuple (pys (a.map D.int))) (.tuple (pys (b.map D.int))) = _
  have key : ∀ a b : List Int, PyData.eqvAll (pys (a.map D.int)) (pys (b.map D.int)) = decide (a = b) := fun a => by
    induction a with
    | nil => intro b; cases b <;> rfl
    | cons x a ih =>
      intro b
      cases b with
      | nil => rfl
      | cons y b =>
        show (PyData.eqv (.int x) (.int y) && PyData.eqvAll (pys (a.map D.int)) (pys (b.map D.int))) = _
        rw [ih b, show PyData.eqv (.int x) (.int y) = (x == y) from rfl]
        by_cases h : x = y
        · subst h
          simp
        · simp [h]
  exact key a b
mutual
theorem eq_refl : ∀ (n : Nat) (d : D), gd n d = true → PyData.eqv d.py d.py = true
  | _, .non, _ => rfl
  | _, .bl b, _ => by show (b == b) = true; simp
  | _, .int i, _ => by show (i == i) = true; simp
  | _, .str x, _ => by show (x == x) = true; simp
  | 0, .tup l, h => by unfold gd at h; cases h
  | n + 1, .tup l, h => by unfold gd at h; exact eq_refls n l h
  | 0, .lst l, h => by unfold gd at h; cases h
  | n + 1, .lst l, h => by unfold gd at h; exact eq_refls n l h
  | n, .dct _ _ _, h => by unfold gd at h; cases h
  | n, .ins _ _ _, h => by unfold gd at h; cases h
  | n, .fn _, h => by unfold gd at h; cases h
  | n, .obj _, h => by unfold gd at h; cases h
  | n, .scr _, h => by unfold gd at h; cases h
  | n, .exc _, h => by unfold gd at h; cases h
theorem eq_refls : ∀ (n : Nat) (l : List D), gds n l = true → PyData.eqvAll (pys l) (pys l) = true
  | n, [], _ => rfl
  | n, d :: l, h => by
    unfold gds at h
    obtain ⟨h1, h2⟩ := Bool.and_eq_true_iff.mp h
    show (PyData.eqv d.py d.py && PyData.eqvAll (pys l) (pys l)) = true
    rw [eq_refl n d h1, eq_refls n l h2]
    rfl
end
theorem ne_self {n : Nat} {d : D} (h : gd n d = true) (hn : n ≤ 64) : opD .ne d d = some (.bl false) := by
  rw [op_ne (gd_ok h hn) (gd_ok h hn), show eqD d d = true from eq_refl n d h]
  rfl
theorem eq_self {n : Nat} {d : D} (h : gd n d = true) (hn : n ≤ 64) : opD .eq d d = some (.bl true) := by
  rw [op_eq (gd_ok h hn) (gd_ok h hn), show eqD d d = true from eq_refl n d h]
theorem sh_tI {l : List Int} : (tI l).sh = true := gd_ok (n := 1) gd_tI (by omega)
theorem ne_tI {a b : List Int} : opD .ne (tI a) (tI b) = some (.bl (!decide (a = b))) := by rw [op_ne sh_tI sh_tI, eq_tI]
theorem res_cfg : M.res (M.exc "InvalidConfiguration") = M.pure (.tup [.str "configuration"]) := by funext g; kernel_rfl
theorem res_num : M.res (M.exc "InvalidNumber") = M.pure (.tup [.str "number"]) := by funext g; kernel_rfl
theorem res_prot : M.res (M.exc "InvalidProtocol") = M.pure (.tup [.str "protocol"]) := by funext g; kernel_rfl
theorem res_step : M.res (M.exc "InvalidStep") = M.pure (.tup [.str "step"]) := by funext g; kernel_rfl
/-- a loop that changes nothing -/
theorem loop_id {Φ : Ph} {fuel : Nat} {tg : Tg} {b : List S} {tmp : List Nat} {σ : List Sl} {items : List D} (h : ∀ d ∈ items, itE Φ fuel tg b tmp d σ = M.pure σ) : loopE Φ fuel tg b tmp items σ = M.pure (.next σ) := by
  have := (loopT (Φ := Φ) (fuel := fuel) (tg := tg) (b := b) (tmp := tmp) (α := Unit) (fun d : D => d) (fun _ => σ) (fun _ _ => ()) (fun _ _ => True) items 0 () trivial fun i d _ hi _ => ⟨h d (List.mem_of_getElem? hi), trivial⟩).1
  rw [List.map_id'] at this
  exact this
end GL
namespace K02
open PySem PySem.Spec L2 MC GL
/-- is_between -/
def N3 : List Str := ["value", "low", "high"]
/-- are_between -/
def N4 : List Str := ["values", "low", "high", "one"]
/-- is_ascending -/
def N5 : List Str := ["values", "one", "other"]
/-- is_rule -/
def N6 : List Str := ["many", "value", "source", "target", "need", "bars", "effects"]
/-- is_protocol -/
def N7 : List Str := ["value", "many", "rules", "one"]
/-- others -/
def N8 : List Str := ["configuration", "state"]
/-- _law_rule -/
def N9 : List Str := ["script", "town", "many", "source", "target", "need", "bars", "effects", "state"]
/-- _law_protocol -/
def N10 : List Str := ["script", "town", "states", "rules", "many", "k"]
/-- first_of -/
def N11 : List Str := ["protocol", "caches"]
/-- is_possible -/
def N12 : List Str := ["configuration", "rule", "rest", "source", "target", "need", "bars", "effects", "state"]
/-- performed -/
def N13 : List Str := ["configuration", "rule", "found", "source", "target", "need", "bars", "effects", "state", "count"]
/-- dropped -/
def N14 : List Str := ["configuration", "state", "rest"]
/-- moves -/
def N15 : List Str := ["protocol", "configuration", "found", "state", "index", "rule"]
/-- _law_pattern -/
def N18 : List Str := ["script", "town", "many", "most", "counts", "k"]
/-- check_protocol -/
def N19 : List Str := ["protocol"]
/-- is_count -/
def N20 : List Str := ["value"]
/-- are_counts -/
def N21 : List Str := ["protocol", "value", "one"]
/-- is_configuration_of -/
def N22 : List Str := ["protocol", "value"]
/-- is_configuration -/
def N23 : List Str := ["protocol", "value"]
/-- check_configuration -/
def N28 : List Str := ["protocol", "configuration"]
/-- check_number -/
def N29 : List Str := ["caches"]
/-- initial -/
def N30 : List Str := ["protocol", "caches"]
/-- steps -/
def N31 : List Str := ["protocol", "configuration", "step", "there"]
/-- is_step_shape -/
def N32 : List Str := ["value"]
/-- moved -/
def N33 : List Str := ["protocol", "configuration", "step"]
/-- after -/
def N34 : List Str := ["protocol", "configuration", "step", "found"]
/-- _law_moves -/
def N99 : List Str := ["protocol", "configuration_here", "found", "state", "index", "rest", "good", "counts", "source", "target", "need", "bars", "effects", "count"]
/-- _law_errors -/
def N140 : List Str := ["script", "town", "protocol_here", "configuration_here", "odd", "caches_here", "results"]
def b140 : List S := [.forr (.n 4) (.e (.tup [.cst .non, .tup [], .op .mul (.tup [.cst (.int 0)]) (.idx (.var 2) (.cst (.int 0))), .prim .list [.var 3], .op .mul (.tup [.cst (.int 9)]) (.idx (.var 2) (.cst (.int 0)))])) [.new 6 (.lst [.res (.call 31 [.var 2, .var 4])]), .fz 6, .ife (.op .ne (.op .add (.var 6) (.lst [.res (.call 34 [.var 2, .var 4, .cst .non])])) (.op .mul (.lst [.tup [.cst (.str "configuration")]]) (.cst (.int 2)))) [.ret (.cst (.bl false))] []] [4, 6], .asg (.n 5) (.op .add (.cst (.int 1)) (.call 1 [.var 0, .var 1, .cst (.int 8)])), .ife (.op .ne (.callk 30 [.var 2] [("caches", .var 5)] [0, 1]) (.op .add (.tup [.var 5]) (.op .mul (.tup [.cst (.int 0)]) (.op .sub (.idx (.var 2) (.cst (.int 0))) (.cst (.int 1)))))) [.ret (.cst (.bl false))] [], .forr (.n 4) (.e (.tup [.cst (.int 0), .cst (.int 9), .cst .non, .cst (.bl true)])) [.ife (.op .ne (.res (.call 30 [.var 2, .var 4])) (.tup [.cst (.str "number")])) [.ret (.cst (.bl false))] []] [4], .new 6 (.lst [.res (.call 31 [.cst .non, .cst .non])]), .app 6 (.res (.call 34 [.tup [.cst (.int 2)], .cst .non, .cst .non])), .app 6 (.res (.call 23 [.lst [], .cst .non])), .fz 6, .ife (.op .ne (.op .add (.var 6) (.lst [.res (.call 30 [.cst (.int 3), .cst .non])])) (.op .mul (.lst [.tup [.cst (.str "protocol")]]) (.cst (.int 4)))) [.ret (.cst (.bl false))] [], .ret (.cst (.bl true))]
/-- law -/
def N141 : List Str := ["script", "town", "k", "protocol_here", "configuration_here", "due", "known", "odds", "odd", "step_here", "there", "index", "state"]
def b141 : List S := [.asg (.n 1) (.call 0 []), .forr (.n 2) (.rng [.cst (.int 5)]) [.asg (.n 3) (.call 10 [.var 0, .var 1, .cst (.int 5), .cst (.int 6)]), .asg (.n 4) (.call 18 [.var 0, .var 1, .idx (.var 3) (.cst (.int 0)), .cst (.int 5)]), .asg (.n 4) (.op .add (.tup [.call 1 [.var 0, .var 1, .cst (.int 3)]]) (.slc (.var 4) (some (.cst (.int 1))) none)), .asg (.n 5) (.call 99 [.var 3, .var 4]), .ife (.op .ne (.callk 31 [.var 3] [("configuration", .var 4)] [0, 1]) (.prim .tuple [.comp (.var 9) (.t [.n 9, .n 10]) [9, 10] (.e (.var 5)) []])) [.ret (.cst (.bl false))] [], .forr (.t [.n 9, .n 10]) (.e (.var 5)) [.ife (.op .ne (.callk 34 [.var 3] [("configuration", .var 4), ("step", .var 9)] [0, 1, 2]) (.var 10)) [.ret (.cst (.bl false))] []] [9, 10], .asg (.n 6) (.prim .dictT [.var 5]), .asg (.n 7) (.lst [.tup [.cst (.str "drop"), .cst (.int 0)], .tup [.cst (.str "drop"), .cst (.int 9)], .tup [.cst (.str "rule"), .cst (.int 8)], .tup [.cst (.str "rule"), .neg (.cst (.int 1))], .cst .non, .tup [.cst (.str "drop")], .lst [.cst (.str "drop"), .cst (.int 1)], .tup []]), .forr (.n 8) (.e (.op .add (.op .add (.var 7) (.comp (.tup [.cst (.str "drop"), .var 12]) (.n 12) [12] (.rng [.cst (.int 5)]) [])) (.comp (.tup [.cst (.str "rule"), .var 11]) (.n 11) [11] (.rng [.cst (.int 8)]) []))) [.ife (.or [.not (.isi (.var 8) .tuple), .op .nmem (.var 8) (.var 6)]) [.ife (.op .ne (.res (.call 34 [.var 3, .var 4, .var 8])) (.tup [.cst (.str "step")])) [.ret (.cst (.bl false))] []] []] [8], .ife (.op .ne (.res (.call 34 [.var 3, .var 4, .tup [.cst (.str "rule"), .cst (.bl true)]])) (.tup [.cst (.str "step")])) [.ret (.cst (.bl false))] [], .ife (.not (.call 140 [.var 0, .var 1, .var 3, .var 4])) [.ret (.cst (.bl false))] []] [2, 3, 4, 5, 9, 10, 6, 7, 8], .ret (.cst (.bl true))]
def FLl_0 : List (Ph → List D → M D) := [fun Φ as => body Φ fuel b140 3 as, fun Φ as => body Φ fuel b141 12 as]
def FLl : List (Ph → List D → M D) := FLl_0
def F (n : Nat) : Ph → List D → M D := if n < 140 then FG n else FLl.getD (n - 140) fun _ _ => M.fail
abbrev Φ : Ph := Phi F
theorem glob (f : Nat) (h : f < 140) : Φ f = GL.Φ f := phi_glob (B := 140) (fun m hm => by unfold F; rw [if_pos hm]) h
end K02
namespace K02
open PySem PySem.Spec L2 MC GL
theorem upL {n f : Nat} (h : f < n) (h2 : f < 140) : upto F n f = GL.Φ f := by
  rw [upto_lt h]
  exact glob f h2
section
variable {ns : List Int} (hl : ns.length ≤ 63)
include hl
theorem dr {n : Nat} (hn : 1 < n) {m : Int} (m0 : 0 < m) (m1 : m < 1000) : Got ns.length (upto F n 1 [.scr ns, .obj 0, .int m]) fun d => ∃ v, d = .int v ∧ 0 ≤ v ∧ v < m := by
  rw [upL hn (by decide)]
  exact got_draw hl m0 (by omega)
theorem e140 {m : Int} {rs : List Rl} {c : List Int} (P : Prc m rs) (C : Cf m c) (hc : confB m (tI c) = true) : Got ns.length (Φ 140 [.scr ns, .obj 0, pD m rs, tI c]) fun d => d = .bl true := by
  have lo := P.lo
  have hi := P.hi
  have hm := C.1
  refine got_body (b := b140) (k := 3) (as := [.scr ns, .obj 0, pD m rs, tI c]) ?_
  show Got ns.length (exs (upto F 140) fuel b140 [.imm (.scr ns), .imm (.obj 0), .imm (pD m rs), .imm (tI c), .un, .un, .un]) _
  have i0 : ixOf (pD m rs) (.int 0) = some (.int m) := rfl
  have pl : MC.prD .list [tI c] = some (.lst (c.map D.int)) := rfl
  have wt : ∀ l : List D, walkE (.tup l) = some l := fun _ => rfl
  have e31 : upto F 140 31 = GL.Φ 31 := upL (by decide) (by decide)
  have e34 : upto F 140 34 = GL.Φ 34 := upL (by decide) (by decide)
  have e30 : upto F 140 30 = GL.Φ 30 := upL (by decide) (by decide)
  have e23 : upto F 140 23 = GL.Φ 23 := upL (by decide) (by decide)
  have k1 : opD .add (.lst [.tup [.str "configuration"]]) (.lst [.tup [.str "configuration"]]) = some (.lst [.tup [.str "configuration"], .tup [.str "configuration"]]) := by kernel_rfl
  have k2 : opD .mul (.lst [.tup [.str "configuration"]]) (.int 2) = some (.lst [.tup [.str "configuration"], .tup [.str "configuration"]]) := by kernel_rfl
  have k3 : opD .ne (.lst [.tup [.str "configuration"], .tup [.str "configuration"]]) (.lst [.tup [.str "configuration"], .tup [.str "configuration"]]) = some (.bl false) := by kernel_rfl
  unfold b140
  rw [exs_p (σ' := [.imm (.scr ns), .imm (.obj 0), .imm (pD m rs), .imm (tI c), .un, .un, .un]) (by
    simp only [b_body, q_var, q_cst, q_con, q_tup, q_lst, q_op, opX_p, q_chn, q_and, q_or, q_and1, q_and2, q_or1, q_or2, andX_t, andX_f, orX_t, orX_f, q_not, negX_b, q_neg, q_ife, iteE_t, iteE_f, q_idx, q_slc, q_evo0, q_evo1, q_call, q_callk, q_evk0, q_evk1, q_prim, q_isi, q_comp, q_at, q_in, q_get, q_get3, q_fld, q_res, res_p, q_nil, q_cons, consX_p, q_ite, q_rng, q_enum, q_zip,   s_nil, s_cons, seqX_n, seqX_r, seqX_x, seqX_b, seqX_c, s_asg, asgX_p, s_par, s_new, s_fz, s_clr, s_setix, s_augix, s_aug, s_app, s_ext, s_ife, iteX_t, iteX_f, s_for, s_whilL, s_newd0, s_newd1, s_setk, s_pop, s_par2, s_set2, set2X_n, s_ret, s_exp, s_raise, retD_r, retD_n, slot_z, slot_s, slotD_z, slotD_s, mlS_z, mlS_s, seqS_z, seqS_d, seqS_s, mdS_z, mdS_s, newS_l, fz_q, fzQ_l, fzQ_d, app_q, ext_q, set_q, get_q, getQ_l, put_q, putQ_d, it_e, it_1, it2_n, it2_c, put_n, put_t, puts_z, puts_c, clear_z, clear_c,   immS_z, immS_i, immS_u, immS_l, immS_d, M.pure_bind, M.fail_bind, M.exc_bind, M.opt_some, M.opt_none, List.set_cons_succ, List.set_cons_zero, List.map_cons, List.map_nil, List.cons_append, List.nil_append, List.replicate_succ, List.replicate_zero, List.length_cons, List.length_nil, Nat.reduceLT, Nat.reduceAdd, Nat.zero_lt_succ, Nat.lt_add_left_iff_pos, reduceIte, Option.bind_some, Option.map_some, truth_b, decide_true, decide_false, Bool.not_true, Bool.not_false, tail_ret, i0, pl, wt, op_mul1 (d := .int 0) (k := m) (by omega) (by omega), op_mul1 (d := .int 9) (k := m) (by omega) (by omega)]
    refine loop_id fun d hd => ?_
    have hbad : gd 1 d = true ∧ confB m d = false := by
      simp only [List.mem_cons, List.not_mem_nil, or_false] at hd
      rcases hd with rfl | rfl | rfl | rfl | rfl
      · exact ⟨rfl, rfl⟩
      · refine ⟨rfl, ?_⟩
        show confB m (tI []) = false
        rw [conf_tI, decide_eq_false (show ¬ (([] : List Int).length : Int) = m by simp; omega)]
        rfl
      · rw [map_rep]
        refine ⟨gd_tI, ?_⟩
        rw [conf_tI, sum_rep, Int.mul_zero]
        simp
      · exact ⟨gd_lI, rfl⟩
      · rw [map_rep]
        refine ⟨gd_tI, ?_⟩
        rw [conf_tI, sum_rep, decide_eq_false (show ¬ ((m.toNat : Int) * 9 ≤ 8) by omega)]
        simp
    have r1 := c31c P hbad.1 hbad.2
    have r2 := c34c (u := .non) P hbad.1 hbad.2
    simp only [b_body, q_var, q_cst, q_con, q_tup, q_lst, q_op, opX_p, q_chn, q_and, q_or, q_and1, q_and2, q_or1, q_or2, andX_t, andX_f, orX_t, orX_f, q_not, negX_b, q_neg, q_ife, iteE_t, iteE_f, q_idx, q_slc, q_evo0, q_evo1, q_call, q_callk, q_evk0, q_evk1, q_prim, q_isi, q_comp, q_at, q_in, q_get, q_get3, q_fld, q_res, res_p, q_nil, q_cons, consX_p, q_ite, q_rng, q_enum, q_zip,   s_nil, s_cons, seqX_n, seqX_r, seqX_x, seqX_b, seqX_c, s_asg, asgX_p, s_par, s_new, s_fz, s_clr, s_setix, s_augix, s_aug, s_app, s_ext, s_ife, iteX_t, iteX_f, s_for, s_whilL, s_newd0, s_newd1, s_setk, s_pop, s_par2, s_set2, set2X_n, s_ret, s_exp, s_raise, retD_r, retD_n, slot_z, slot_s, slotD_z, slotD_s, mlS_z, mlS_s, seqS_z, seqS_d, seqS_s, mdS_z, mdS_s, newS_l, fz_q, fzQ_l, fzQ_d, app_q, ext_q, set_q, get_q, getQ_l, put_q, putQ_d, it_e, it_1, it2_n, it2_c, put_n, put_t, puts_z, puts_c, clear_z, clear_c,   immS_z, immS_i, immS_u, immS_l, immS_d, M.pure_bind, M.fail_bind, M.exc_bind, M.opt_some, M.opt_none, List.set_cons_succ, List.set_cons_zero, List.map_cons, List.map_nil, List.cons_append, List.nil_append, List.replicate_succ, List.replicate_zero, List.length_cons, List.length_nil, Nat.reduceLT, Nat.reduceAdd, Nat.zero_lt_succ, Nat.lt_add_left_iff_pos, reduceIte, Option.bind_some, Option.map_some, truth_b, decide_true, decide_false, Bool.not_true, Bool.not_false, tail_ret, e31, e34, r1, r2, res_cfg, k1, k2, k3])]
  refine got_asg (P := fun d => ∃ v, d = .int v ∧ 1 ≤ v ∧ v ≤ 8) (got_op got_cst (got_call (fun g => rfl) (dr hl (by decide) (m := 8) (by omega) (by omega))) fun x y hx ⟨v, hy, v0, v1⟩ => by subst hx hy; exact ⟨_, rfl, 1 + v, rfl, by omega, by omega⟩) fun d ⟨v, hd, v0, v1⟩ => ?_
  subst hd
  refine ⟨[.imm (.scr ns), .imm (.obj 0), .imm (pD m rs), .imm (tI c), .un, .imm (.int v), .un], rfl, ?_⟩
  have bv : betw 1 8 (.int v) = true := by
    show (decide (1 ≤ v) && decide (v ≤ 8)) = true
    rw [decide_eq_true v0, decide_eq_true v1]
    rfl
  have r30 : GL.Φ 30 [pD m rs, .int v] = M.pure (tI (v :: List.replicate (m - 1).toNat 0)) := by
    rw [c30 (n := 4) (by omega) gd_pD rfl, if_pos (prot_ok P), if_pos bv]
    exact e11 (by omega) (by omega)
  have pm : permD [0, 1] [pD m rs, .int v] = some [pD m rs, .int v] := rfl
  have ot : opD .add (.tup [.int v]) (.tup (List.replicate (m - 1).toNat (.int 0))) = some (tI (v :: List.replicate (m - 1).toNat 0)) := by
    rw [op_addt (by rw [List.length_replicate, List.length_cons, List.length_nil]; omega), map_rep]
    rfl
  rw [exs_p (σ' := [.imm (.scr ns), .imm (.obj 0), .imm (pD m rs), .imm (tI c), .un, .imm (.int v), .un]) (by
    simp only [b_body, q_var, q_cst, q_con, q_tup, q_lst, q_op, opX_p, q_chn, q_and, q_or, q_and1, q_and2, q_or1, q_or2, andX_t, andX_f, orX_t, orX_f, q_not, negX_b, q_neg, q_ife, iteE_t, iteE_f, q_idx, q_slc, q_evo0, q_evo1, q_call, q_callk, q_evk0, q_evk1, q_prim, q_isi, q_comp, q_at, q_in, q_get, q_get3, q_fld, q_res, res_p, q_nil, q_cons, consX_p, q_ite, q_rng, q_enum, q_zip,   s_nil, s_cons, seqX_n, seqX_r, seqX_x, seqX_b, seqX_c, s_asg, asgX_p, s_par, s_new, s_fz, s_clr, s_setix, s_augix, s_aug, s_app, s_ext, s_ife, iteX_t, iteX_f, s_for, s_whilL, s_newd0, s_newd1, s_setk, s_pop, s_par2, s_set2, set2X_n, s_ret, s_exp, s_raise, retD_r, retD_n, slot_z, slot_s, slotD_z, slotD_s, mlS_z, mlS_s, seqS_z, seqS_d, seqS_s, mdS_z, mdS_s, newS_l, fz_q, fzQ_l, fzQ_d, app_q, ext_q, set_q, get_q, getQ_l, put_q, putQ_d, it_e, it_1, it2_n, it2_c, put_n, put_t, puts_z, puts_c, clear_z, clear_c,   immS_z, immS_i, immS_u, immS_l, immS_d, M.pure_bind, M.fail_bind, M.exc_bind, M.opt_some, M.opt_none, List.set_cons_succ, List.set_cons_zero, List.map_cons, List.map_nil, List.cons_append, List.nil_append, List.replicate_succ, List.replicate_zero, List.length_cons, List.length_nil, Nat.reduceLT, Nat.reduceAdd, Nat.zero_lt_succ, Nat.lt_add_left_iff_pos, reduceIte, Option.bind_some, Option.map_some, truth_b, decide_true, decide_false, Bool.not_true, Bool.not_false, tail_ret, e30, pm, r30, i0, op_subi, op_mul1 (d := .int 0) (k := m - 1) (by omega) (by omega), ot, ne_tI])]
  have k4 : opD .ne (.tup [.str "number"]) (.tup [.str "number"]) = some (.bl false) := by kernel_rfl
  rw [exs_p (σ' := [.imm (.scr ns), .imm (.obj 0), .imm (pD m rs), .imm (tI c), .un, .imm (.int v), .un]) (by
    simp only [b_body, q_var, q_cst, q_con, q_tup, q_lst, q_op, opX_p, q_chn, q_and, q_or, q_and1, q_and2, q_or1, q_or2, andX_t, andX_f, orX_t, orX_f, q_not, negX_b, q_neg, q_ife, iteE_t, iteE_f, q_idx, q_slc, q_evo0, q_evo1, q_call, q_callk, q_evk0, q_evk1, q_prim, q_isi, q_comp, q_at, q_in, q_get, q_get3, q_fld, q_res, res_p, q_nil, q_cons, consX_p, q_ite, q_rng, q_enum, q_zip,   s_nil, s_cons, seqX_n, seqX_r, seqX_x, seqX_b, seqX_c, s_asg, asgX_p, s_par, s_new, s_fz, s_clr, s_setix, s_augix, s_aug, s_app, s_ext, s_ife, iteX_t, iteX_f, s_for, s_whilL, s_newd0, s_newd1, s_setk, s_pop, s_par2, s_set2, set2X_n, s_ret, s_exp, s_raise, retD_r, retD_n, slot_z, slot_s, slotD_z, slotD_s, mlS_z, mlS_s, seqS_z, seqS_d, seqS_s, mdS_z, mdS_s, newS_l, fz_q, fzQ_l, fzQ_d, app_q, ext_q, set_q, get_q, getQ_l, put_q, putQ_d, it_e, it_1, it2_n, it2_c, put_n, put_t, puts_z, puts_c, clear_z, clear_c,   immS_z, immS_i, immS_u, immS_l, immS_d, M.pure_bind, M.fail_bind, M.exc_bind, M.opt_some, M.opt_none, List.set_cons_succ, List.set_cons_zero, List.map_cons, List.map_nil, List.cons_append, List.nil_append, List.replicate_succ, List.replicate_zero, List.length_cons, List.length_nil, Nat.reduceLT, Nat.reduceAdd, Nat.zero_lt_succ, Nat.lt_add_left_iff_pos, reduceIte, Option.bind_some, Option.map_some, truth_b, decide_true, decide_false, Bool.not_true, Bool.not_false, tail_ret, wt]
    refine loop_id fun d hd => ?_
    have hbad : plain d = true ∧ betw 1 8 d = false := by
      simp only [List.mem_cons, List.not_mem_nil, or_false] at hd
      rcases hd with rfl | rfl | rfl | rfl <;> exact ⟨rfl, rfl⟩
    have r1 : GL.Φ 30 [pD m rs, d] = M.exc "InvalidNumber" := by
      rw [c30 (n := 4) (by omega) gd_pD hbad.1, if_pos (prot_ok P), if_neg (by rw [hbad.2]; exact Bool.false_ne_true)]
    simp only [b_body, q_var, q_cst, q_con, q_tup, q_lst, q_op, opX_p, q_chn, q_and, q_or, q_and1, q_and2, q_or1, q_or2, andX_t, andX_f, orX_t, orX_f, q_not, negX_b, q_neg, q_ife, iteE_t, iteE_f, q_idx, q_slc, q_evo0, q_evo1, q_call, q_callk, q_evk0, q_evk1, q_prim, q_isi, q_comp, q_at, q_in, q_get, q_get3, q_fld, q_res, res_p, q_nil, q_cons, consX_p, q_ite, q_rng, q_enum, q_zip,   s_nil, s_cons, seqX_n, seqX_r, seqX_x, seqX_b, seqX_c, s_asg, asgX_p, s_par, s_new, s_fz, s_clr, s_setix, s_augix, s_aug, s_app, s_ext, s_ife, iteX_t, iteX_f, s_for, s_whilL, s_newd0, s_newd1, s_setk, s_pop, s_par2, s_set2, set2X_n, s_ret, s_exp, s_raise, retD_r, retD_n, slot_z, slot_s, slotD_z, slotD_s, mlS_z, mlS_s, seqS_z, seqS_d, seqS_s, mdS_z, mdS_s, newS_l, fz_q, fzQ_l, fzQ_d, app_q, ext_q, set_q, get_q, getQ_l, put_q, putQ_d, it_e, it_1, it2_n, it2_c, put_n, put_t, puts_z, puts_c, clear_z, clear_c,   immS_z, immS_i, immS_u, immS_l, immS_d, M.pure_bind, M.fail_bind, M.exc_bind, M.opt_some, M.opt_none, List.set_cons_succ, List.set_cons_zero, List.map_cons, List.map_nil, List.cons_append, List.nil_append, List.replicate_succ, List.replicate_zero, List.length_cons, List.length_nil, Nat.reduceLT, Nat.reduceAdd, Nat.zero_lt_succ, Nat.lt_add_left_iff_pos, reduceIte, Option.bind_some, Option.map_some, truth_b, decide_true, decide_false, Bool.not_true, Bool.not_false, tail_ret, e30, r1, res_num, k4])]
  have q1 : GL.Φ 31 [.non, .non] = M.exc "InvalidProtocol" := c31 (n := 1) (by omega) rfl rfl
  have q2 : GL.Φ 34 [.tup [.int 2], .non, .non] = M.exc "InvalidProtocol" := c34p (n := 1) (by omega) rfl rfl
  have q3 : GL.Φ 23 [.lst [], .non] = M.exc "InvalidProtocol" := c23p (n := 1) (by omega) rfl rfl
  have q4 : GL.Φ 30 [.int 3, .non] = M.exc "InvalidProtocol" := by
    rw [c30 (n := 1) (by omega) rfl rfl, if_neg (by rw [show protB (.int 3) = false from rfl]; exact Bool.false_ne_true)]
  have k5 : opD .add (.lst [.tup [.str "protocol"], .tup [.str "protocol"], .tup [.str "protocol"]]) (.lst [.tup [.str "protocol"]]) = some (.lst [.tup [.str "protocol"], .tup [.str "protocol"], .tup [.str "protocol"], .tup [.str "protocol"]]) := by kernel_rfl
  have k6 : opD .mul (.lst [.tup [.str "protocol"]]) (.int 4) = some (.lst [.tup [.str "protocol"], .tup [.str "protocol"], .tup [.str "protocol"], .tup [.str "protocol"]]) := by kernel_rfl
  have k7 : opD .ne (.lst [.tup [.str "protocol"], .tup [.str "protocol"], .tup [.str "protocol"], .tup [.str "protocol"]]) (.lst [.tup [.str "protocol"], .tup [.str "protocol"], .tup [.str "protocol"], .tup [.str "protocol"]]) = some (.bl false) := by kernel_rfl
  refine .of (a := .ret (.bl true)) (fun g => ofM ?_ g) ⟨_, rfl, rfl⟩
  simp only [b_body, q_var, q_cst, q_con, q_tup, q_lst, q_op, opX_p, q_chn, q_and, q_or, q_and1, q_and2, q_or1, q_or2, andX_t, andX_f, orX_t, orX_f, q_not, negX_b, q_neg, q_ife, iteE_t, iteE_f, q_idx, q_slc, q_evo0, q_evo1, q_call, q_callk, q_evk0, q_evk1, q_prim, q_isi, q_comp, q_at, q_in, q_get, q_get3, q_fld, q_res, res_p, q_nil, q_cons, consX_p, q_ite, q_rng, q_enum, q_zip,   s_nil, s_cons, seqX_n, seqX_r, seqX_x, seqX_b, seqX_c, s_asg, asgX_p, s_par, s_new, s_fz, s_clr, s_setix, s_augix, s_aug, s_app, s_ext, s_ife, iteX_t, iteX_f, s_for, s_whilL, s_newd0, s_newd1, s_setk, s_pop, s_par2, s_set2, set2X_n, s_ret, s_exp, s_raise, retD_r, retD_n, slot_z, slot_s, slotD_z, slotD_s, mlS_z, mlS_s, seqS_z, seqS_d, seqS_s, mdS_z, mdS_s, newS_l, fz_q, fzQ_l, fzQ_d, app_q, ext_q, set_q, get_q, getQ_l, put_q, putQ_d, it_e, it_1, it2_n, it2_c, put_n, put_t, puts_z, puts_c, clear_z, clear_c,   immS_z, immS_i, immS_u, immS_l, immS_d, M.pure_bind, M.fail_bind, M.exc_bind, M.opt_some, M.opt_none, List.set_cons_succ, List.set_cons_zero, List.map_cons, List.map_nil, List.cons_append, List.nil_append, List.replicate_succ, List.replicate_zero, List.length_cons, List.length_nil, Nat.reduceLT, Nat.reduceAdd, Nat.zero_lt_succ, Nat.lt_add_left_iff_pos, reduceIte, Option.bind_some, Option.map_some, truth_b, decide_true, decide_false, Bool.not_true, Bool.not_false, tail_ret, e31, e34, e30, e23, q1, q2, q3, q4, res_prot, appQ_l (l := [.tup [.str "protocol"]]) (by decide), appQ_l (l := [.tup [.str "protocol"], .tup [.str "protocol"]]) (by decide), k5, k6, k7]
def turn : List S := [.asg (.n 3) (.call 10 [.var 0, .var 1, .cst (.int 5), .cst (.int 6)]), .asg (.n 4) (.call 18 [.var 0, .var 1, .idx (.var 3) (.cst (.int 0)), .cst (.int 5)]), .asg (.n 4) (.op .add (.tup [.call 1 [.var 0, .var 1, .cst (.int 3)]]) (.slc (.var 4) (some (.cst (.int 1))) none)), .asg (.n 5) (.call 99 [.var 3, .var 4]), .ife (.op .ne (.callk 31 [.var 3] [("configuration", .var 4)] [0, 1]) (.prim .tuple [.comp (.var 9) (.t [.n 9, .n 10]) [9, 10] (.e (.var 5)) []])) [.ret (.cst (.bl false))] [], .forr (.t [.n 9, .n 10]) (.e (.var 5)) [.ife (.op .ne (.callk 34 [.var 3] [("configuration", .var 4), ("step", .var 9)] [0, 1, 2]) (.var 10)) [.ret (.cst (.bl false))] []] [9, 10], .asg (.n 6) (.prim .dictT [.var 5]), .asg (.n 7) (.lst [.tup [.cst (.str "drop"), .cst (.int 0)], .tup [.cst (.str "drop"), .cst (.int 9)], .tup [.cst (.str "rule"), .cst (.int 8)], .tup [.cst (.str "rule"), .neg (.cst (.int 1))], .cst .non, .tup [.cst (.str "drop")], .lst [.cst (.str "drop"), .cst (.int 1)], .tup []]), .forr (.n 8) (.e (.op .add (.op .add (.var 7) (.comp (.tup [.cst (.str "drop"), .var 12]) (.n 12) [12] (.rng [.cst (.int 5)]) [])) (.comp (.tup [.cst (.str "rule"), .var 11]) (.n 11) [11] (.rng [.cst (.int 8)]) []))) [.ife (.or [.not (.isi (.var 8) .tuple), .op .nmem (.var 8) (.var 6)]) [.ife (.op .ne (.res (.call 34 [.var 3, .var 4, .var 8])) (.tup [.cst (.str "step")])) [.ret (.cst (.bl false))] []] []] [8], .ife (.op .ne (.res (.call 34 [.var 3, .var 4, .tup [.cst (.str "rule"), .cst (.bl true)]])) (.tup [.cst (.str "step")])) [.ret (.cst (.bl false))] [], .ife (.not (.call 140 [.var 0, .var 1, .var 3, .var 4])) [.ret (.cst (.bl false))] []]
abbrev st (ns : List Int) (k p c due known odds : Sl) : List Sl := [.imm (.scr ns), .imm (.obj 0), k, p, c, due, known, odds, .un, .un, .un, .un, .un]
omit hl in
theorem str_ok : PyData.strOk "drop" = true ∧ PyData.strOk "rule" = true := by decide +kernel
theorem turn_ok {kx : D} : Got ns.length (exs (upto F 141) fuel turn (st ns (.imm kx) .un .un .un .un .un)) fun f => ∃ p c due known odds, f = .next (st ns (.imm kx) p c due known odds) := by
  unfold turn
  refine got_asg (P := fun d => ∃ m rs, d = pD m rs ∧ Prc m rs) (got_call (ds := [.scr ns, .obj 0, .int 5, .int 6]) (fun g => rfl) (by
    rw [upL (by decide) (by decide)]
    exact (g10 hl (st := 5) (ru := 6) (by omega) (by omega) (by omega) (by omega)).imp fun d ⟨m, rs, h1, h2, _⟩ => ⟨m, rs, h1, h2⟩)) fun d ⟨m, rs, hd, P⟩ => ?_
  subst hd
  have lo := P.lo
  have hi := P.hi
  have hrl := P.len
  refine ⟨st ns (.imm kx) (.imm (pD m rs)) .un .un .un .un, rfl, ?_⟩
  refine got_asg (P := fun d => ∃ l, d = tI l ∧ Pat m 5 l) (got_call (ds := [.scr ns, .obj 0, .int m, .int 5]) (fun g => rfl) (by
    rw [upL (by decide) (by decide)]
    exact e18 hl lo hi (by omega) (by omega))) fun d ⟨l, hd, hP⟩ => ?_
  subst hd
  refine ⟨st ns (.imm kx) (.imm (pD m rs)) (.imm (tI l)) .un .un .un, rfl, ?_⟩
  obtain ⟨l', rfl⟩ := hP.hd
  refine got_asg (P := fun d => ∃ v, d = tI (v :: l') ∧ 0 ≤ v ∧ v < 3) (got_op (P := fun d => ∃ v, d = .tup [.int v] ∧ 0 ≤ v ∧ v < 3) (Q := fun d => d = tI l') ((got_tup (got_evs (got_call (ds := [.scr ns, .obj 0, .int 3]) (fun g => rfl) (dr hl (by decide) (m := 3) (by omega) (by omega))) got_nil)).imp fun d ⟨ds, h1, d1, r, h2, ⟨v, h3, h4⟩, h5⟩ => ⟨v, by rw [h1, h2, h5, h3], h4⟩) (.of (fun g => ofM (by
      have e : slOf (tI (0 :: l')) (some 1) none = some (tI l') := by
        show some (D.tup (cutL ((0 :: l').map D.int) (some ((1 : Nat) : Int)) none)) = _
        rw [cut_from]
        rfl
      simp only [b_body, q_var, q_cst, q_con, q_tup, q_lst, q_op, opX_p, q_chn, q_and, q_or, q_and1, q_and2, q_or1, q_or2, andX_t, andX_f, orX_t, orX_f, q_not, negX_b, q_neg, q_ife, iteE_t, iteE_f, q_idx, q_slc, q_evo0, q_evo1, q_call, q_callk, q_evk0, q_evk1, q_prim, q_isi, q_comp, q_at, q_in, q_get, q_get3, q_fld, q_res, res_p, q_nil, q_cons, consX_p, q_ite, q_rng, q_enum, q_zip,   s_nil, s_cons, seqX_n, seqX_r, seqX_x, seqX_b, seqX_c, s_asg, asgX_p, s_par, s_new, s_fz, s_clr, s_setix, s_augix, s_aug, s_app, s_ext, s_ife, iteX_t, iteX_f, s_for, s_whilL, s_newd0, s_newd1, s_setk, s_pop, s_par2, s_set2, set2X_n, s_ret, s_exp, s_raise, retD_r, retD_n, slot_z, slot_s, slotD_z, slotD_s, mlS_z, mlS_s, seqS_z, seqS_d, seqS_s, mdS_z, mdS_s, newS_l, fz_q, fzQ_l, fzQ_d, app_q, ext_q, set_q, get_q, getQ_l, put_q, putQ_d, it_e, it_1, it2_n, it2_c, put_n, put_t, puts_z, puts_c, clear_z, clear_c,   immS_z, immS_i, immS_u, immS_l, immS_d, M.pure_bind, M.fail_bind, M.exc_bind, M.opt_some, M.opt_none, List.set_cons_succ, List.set_cons_zero, List.map_cons, List.map_nil, List.cons_append, List.nil_append, List.replicate_succ, List.replicate_zero, List.length_cons, List.length_nil, Nat.reduceLT, Nat.reduceAdd, Nat.zero_lt_succ, Nat.lt_add_left_iff_pos, reduceIte, Option.bind_some, Option.map_some, truth_b, decide_true, decide_false, Bool.not_true, Bool.not_false, tail_ret, e]) g) rfl) fun x y ⟨v, hx, hv⟩ hy => ⟨tI (v :: l'), by
        rw [hx, hy, op_addt (by
          have := hP.len
          rw [List.length_cons] at this
          rw [List.length_map, List.length_cons, List.length_nil]
          omega)]
        rfl, v, rfl, hv⟩) fun d ⟨v, hd, v0, v1⟩ => ?_
  subst hd
  refine ⟨st ns (.imm kx) (.imm (pD m rs)) (.imm (tI (v :: l'))) .un .un .un, rfl, ?_⟩
  have C : Cf m (v :: l') := by
    have h1 := hP.len
    rw [List.length_cons] at h1
    refine ⟨by rw [List.length_cons]; exact h1, fun x hx => ?_⟩
    rcases List.mem_cons.mp hx with rfl | hx
    · exact v0
    · exact hP.pos x (List.mem_cons_of_mem _ hx)
  have hs1 := hP.lo
  have hs2 := hP.hi
  rw [List.sum_cons] at hs1 hs2
  have hc : confB m (tI (v :: l')) = true := conf_ok C (by rw [List.sum_cons]; omega) (by rw [List.sum_cons]; omega)
  generalize v :: l' = c at C hc
  clear hP hs1 hs2 v0 v1
  have hm := C.1
  have e99' : upto F 141 99 [pD m rs, tI c] = M.pure (.lst ((mvs m rs c).map mvD)) := by
    rw [upL (by decide) (by decide)]
    exact e99 P C
  rw [exs_p (σ' := st ns (.imm kx) (.imm (pD m rs)) (.imm (tI c)) (.imm (.lst ((mvs m rs c).map mvD))) .un .un) (by simp only [b_body, q_var, q_cst, q_con, q_tup, q_lst, q_op, opX_p, q_chn, q_and, q_or, q_and1, q_and2, q_or1, q_or2, andX_t, andX_f, orX_t, orX_f, q_not, negX_b, q_neg, q_ife, iteE_t, iteE_f, q_idx, q_slc, q_evo0, q_evo1, q_call, q_callk, q_evk0, q_evk1, q_prim, q_isi, q_comp, q_at, q_in, q_get, q_get3, q_fld, q_res, res_p, q_nil, q_cons, consX_p, q_ite, q_rng, q_enum, q_zip,   s_nil, s_cons, seqX_n, seqX_r, seqX_x, seqX_b, seqX_c, s_asg, asgX_p, s_par, s_new, s_fz, s_clr, s_setix, s_augix, s_aug, s_app, s_ext, s_ife, iteX_t, iteX_f, s_for, s_whilL, s_newd0, s_newd1, s_setk, s_pop, s_par2, s_set2, set2X_n, s_ret, s_exp, s_raise, retD_r, retD_n, slot_z, slot_s, slotD_z, slotD_s, mlS_z, mlS_s, seqS_z, seqS_d, seqS_s, mdS_z, mdS_s, newS_l, fz_q, fzQ_l, fzQ_d, app_q, ext_q, set_q, get_q, getQ_l, put_q, putQ_d, it_e, it_1, it2_n, it2_c, put_n, put_t, puts_z, puts_c, clear_z, clear_c,   immS_z, immS_i, immS_u, immS_l, immS_d, M.pure_bind, M.fail_bind, M.exc_bind, M.opt_some, M.opt_none, List.set_cons_succ, List.set_cons_zero, List.map_cons, List.map_nil, List.cons_append, List.nil_append, List.replicate_succ, List.replicate_zero, List.length_cons, List.length_nil, Nat.reduceLT, Nat.reduceAdd, Nat.zero_lt_succ, Nat.lt_add_left_iff_pos, reduceIte, Option.bind_some, Option.map_some, truth_b, decide_true, decide_false, Bool.not_true, Bool.not_false, tail_ret, e99'])]
  have e31 : upto F 141 31 = GL.Φ 31 := upL (by decide) (by decide)
  have e34 : upto F 141 34 = GL.Φ 34 := upL (by decide) (by decide)
  have pm2 : permD [0, 1] [pD m rs, tI c] = some [pD m rs, tI c] := rfl
  have pm3 : ∀ v, permD [0, 1, 2] [pD m rs, tI c, v] = some [pD m rs, tI c, v] := fun _ => rfl
  have w : ∀ l : List D, walkE (.lst l) = some l := fun _ => rfl
  have pt : ∀ l : List D, MC.prD .tuple [.lst l] = some (.tup l) := fun _ => rfl
  have cm : ∀ due known odds, compE (upto F 141) (.t [.n 9, .n 10]) (.var 9) [] (st ns (.imm kx) (.imm (pD m rs)) (.imm (tI c)) due known odds) ((mvs m rs c).map mvD) = M.pure ((mvs m rs c).map fun x => kD x.1) := fun due known odds => by
    rw [compE0 (fun d => match d with | .tup [k, _] => k | _ => .non) _ fun d hd => by
      obtain ⟨x, hx, rfl⟩ := List.mem_map.mp hd
      refine ⟨[.imm (.scr ns), .imm (.obj 0), .imm kx, .imm (pD m rs), .imm (tI c), due, known, odds, .un, .imm (kD x.1), .imm (tI x.2), .un, .un], rfl, ?_⟩
      simp only [b_body, q_var, q_cst, q_con, q_tup, q_lst, q_op, opX_p, q_chn, q_and, q_or, q_and1, q_and2, q_or1, q_or2, andX_t, andX_f, orX_t, orX_f, q_not, negX_b, q_neg, q_ife, iteE_t, iteE_f, q_idx, q_slc, q_evo0, q_evo1, q_call, q_callk, q_evk0, q_evk1, q_prim, q_isi, q_comp, q_at, q_in, q_get, q_get3, q_fld, q_res, res_p, q_nil, q_cons, consX_p, q_ite, q_rng, q_enum, q_zip,   s_nil, s_cons, seqX_n, seqX_r, seqX_x, seqX_b, seqX_c, s_asg, asgX_p, s_par, s_new, s_fz, s_clr, s_setix, s_augix, s_aug, s_app, s_ext, s_ife, iteX_t, iteX_f, s_for, s_whilL, s_newd0, s_newd1, s_setk, s_pop, s_par2, s_set2, set2X_n, s_ret, s_exp, s_raise, retD_r, retD_n, slot_z, slot_s, slotD_z, slotD_s, mlS_z, mlS_s, seqS_z, seqS_d, seqS_s, mdS_z, mdS_s, newS_l, fz_q, fzQ_l, fzQ_d, app_q, ext_q, set_q, get_q, getQ_l, put_q, putQ_d, it_e, it_1, it2_n, it2_c, put_n, put_t, puts_z, puts_c, clear_z, clear_c,   immS_z, immS_i, immS_u, immS_l, immS_d, M.pure_bind, M.fail_bind, M.exc_bind, M.opt_some, M.opt_none, List.set_cons_succ, List.set_cons_zero, List.map_cons, List.map_nil, List.cons_append, List.nil_append, List.replicate_succ, List.replicate_zero, List.length_cons, List.length_nil, Nat.reduceLT, Nat.reduceAdd, Nat.zero_lt_succ, Nat.lt_add_left_iff_pos, reduceIte, Option.bind_some, Option.map_some, truth_b, decide_true, decide_false, Bool.not_true, Bool.not_false, tail_ret]
      rfl, List.map_map]
    rfl
  have dw : ∀ x ∈ mvs m rs c, gd 1 (kD x.1) = true := fun x hx => by
    have : x.1.1 = "drop" ∨ x.1.1 = "rule" := by
      unfold mvs at hx
      rcases List.mem_append.mp hx with h | h
      · obtain ⟨s, _, rfl⟩ := List.mem_map.mp h
        exact .inl rfl
      · obtain ⟨s, _, rfl⟩ := List.mem_map.mp h
        exact .inr rfl
    unfold kD gd
    refine gds_of fun d hd => ?_
    simp only [List.mem_cons, List.not_mem_nil, or_false] at hd
    rcases hd with rfl | rfl
    · rcases this with e | e
      · rw [e]; exact str_ok.1
      · rw [e]; exact str_ok.2
    · exact gd_int
  have gk : gd 2 (.tup ((mvs m rs c).map fun x => kD x.1)) = true := by
    unfold gd
    exact gds_of fun d hd => by
      obtain ⟨x, hx, rfl⟩ := List.mem_map.mp hd
      exact dw x hx
  rw [exs_p (σ' := st ns (.imm kx) (.imm (pD m rs)) (.imm (tI c)) (.imm (.lst ((mvs m rs c).map mvD))) .un .un) (by
    have cm := cm (.imm (.lst ((mvs m rs c).map mvD))) .un .un
    simp only [b_body, q_var, q_cst, q_con, q_tup, q_lst, q_op, opX_p, q_chn, q_and, q_or, q_and1, q_and2, q_or1, q_or2, andX_t, andX_f, orX_t, orX_f, q_not, negX_b, q_neg, q_ife, iteE_t, iteE_f, q_idx, q_slc, q_evo0, q_evo1, q_call, q_callk, q_evk0, q_evk1, q_prim, q_isi, q_comp, q_at, q_in, q_get, q_get3, q_fld, q_res, res_p, q_nil, q_cons, consX_p, q_ite, q_rng, q_enum, q_zip,   s_nil, s_cons, seqX_n, seqX_r, seqX_x, seqX_b, seqX_c, s_asg, asgX_p, s_par, s_new, s_fz, s_clr, s_setix, s_augix, s_aug, s_app, s_ext, s_ife, iteX_t, iteX_f, s_for, s_whilL, s_newd0, s_newd1, s_setk, s_pop, s_par2, s_set2, set2X_n, s_ret, s_exp, s_raise, retD_r, retD_n, slot_z, slot_s, slotD_z, slotD_s, mlS_z, mlS_s, seqS_z, seqS_d, seqS_s, mdS_z, mdS_s, newS_l, fz_q, fzQ_l, fzQ_d, app_q, ext_q, set_q, get_q, getQ_l, put_q, putQ_d, it_e, it_1, it2_n, it2_c, put_n, put_t, puts_z, puts_c, clear_z, clear_c,   immS_z, immS_i, immS_u, immS_l, immS_d, M.pure_bind, M.fail_bind, M.exc_bind, M.opt_some, M.opt_none, List.set_cons_succ, List.set_cons_zero, List.map_cons, List.map_nil, List.cons_append, List.nil_append, List.replicate_succ, List.replicate_zero, List.length_cons, List.length_nil, Nat.reduceLT, Nat.reduceAdd, Nat.zero_lt_succ, Nat.lt_add_left_iff_pos, reduceIte, Option.bind_some, Option.map_some, truth_b, decide_true, decide_false, Bool.not_true, Bool.not_false, tail_ret, e31, pm2, c31v P hc, w, cm, pt, ne_self gk (by omega)])]
  rw [exs_p (σ' := st ns (.imm kx) (.imm (pD m rs)) (.imm (tI c)) (.imm (.lst ((mvs m rs c).map mvD))) .un .un) (by
    simp only [b_body, q_var, q_cst, q_con, q_tup, q_lst, q_op, opX_p, q_chn, q_and, q_or, q_and1, q_and2, q_or1, q_or2, andX_t, andX_f, orX_t, orX_f, q_not, negX_b, q_neg, q_ife, iteE_t, iteE_f, q_idx, q_slc, q_evo0, q_evo1, q_call, q_callk, q_evk0, q_evk1, q_prim, q_isi, q_comp, q_at, q_in, q_get, q_get3, q_fld, q_res, res_p, q_nil, q_cons, consX_p, q_ite, q_rng, q_enum, q_zip,   s_nil, s_cons, seqX_n, seqX_r, seqX_x, seqX_b, seqX_c, s_asg, asgX_p, s_par, s_new, s_fz, s_clr, s_setix, s_augix, s_aug, s_app, s_ext, s_ife, iteX_t, iteX_f, s_for, s_whilL, s_newd0, s_newd1, s_setk, s_pop, s_par2, s_set2, set2X_n, s_ret, s_exp, s_raise, retD_r, retD_n, slot_z, slot_s, slotD_z, slotD_s, mlS_z, mlS_s, seqS_z, seqS_d, seqS_s, mdS_z, mdS_s, newS_l, fz_q, fzQ_l, fzQ_d, app_q, ext_q, set_q, get_q, getQ_l, put_q, putQ_d, it_e, it_1, it2_n, it2_c, put_n, put_t, puts_z, puts_c, clear_z, clear_c,   immS_z, immS_i, immS_u, immS_l, immS_d, M.pure_bind, M.fail_bind, M.exc_bind, M.opt_some, M.opt_none, List.set_cons_succ, List.set_cons_zero, List.map_cons, List.map_nil, List.cons_append, List.nil_append, List.replicate_succ, List.replicate_zero, List.length_cons, List.length_nil, Nat.reduceLT, Nat.reduceAdd, Nat.zero_lt_succ, Nat.lt_add_left_iff_pos, reduceIte, Option.bind_some, Option.map_some, truth_b, decide_true, decide_false, Bool.not_true, Bool.not_false, tail_ret, w]
    refine loop_id fun d hd => ?_
    obtain ⟨x, hx, rfl⟩ := List.mem_map.mp hd
    have r1 := c34 (n := 1) P hc (dw x hx)
    rw [fnd_mem mvs_nodup hx (mvs_pos hx)] at r1
    unfold mvD
    rw [show D.tup [D.tup [D.str x.1.1, D.int x.1.2], tI x.2] = D.tup [kD x.1, tI x.2] from rfl]
    simp only [b_body, q_var, q_cst, q_con, q_tup, q_lst, q_op, opX_p, q_chn, q_and, q_or, q_and1, q_and2, q_or1, q_or2, andX_t, andX_f, orX_t, orX_f, q_not, negX_b, q_neg, q_ife, iteE_t, iteE_f, q_idx, q_slc, q_evo0, q_evo1, q_call, q_callk, q_evk0, q_evk1, q_prim, q_isi, q_comp, q_at, q_in, q_get, q_get3, q_fld, q_res, res_p, q_nil, q_cons, consX_p, q_ite, q_rng, q_enum, q_zip,   s_nil, s_cons, seqX_n, seqX_r, seqX_x, seqX_b, seqX_c, s_asg, asgX_p, s_par, s_new, s_fz, s_clr, s_setix, s_augix, s_aug, s_app, s_ext, s_ife, iteX_t, iteX_f, s_for, s_whilL, s_newd0, s_newd1, s_setk, s_pop, s_par2, s_set2, set2X_n, s_ret, s_exp, s_raise, retD_r, retD_n, slot_z, slot_s, slotD_z, slotD_s, mlS_z, mlS_s, seqS_z, seqS_d, seqS_s, mdS_z, mdS_s, newS_l, fz_q, fzQ_l, fzQ_d, app_q, ext_q, set_q, get_q, getQ_l, put_q, putQ_d, it_e, it_1, it2_n, it2_c, put_n, put_t, puts_z, puts_c, clear_z, clear_c,   immS_z, immS_i, immS_u, immS_l, immS_d, M.pure_bind, M.fail_bind, M.exc_bind, M.opt_some, M.opt_none, List.set_cons_succ, List.set_cons_zero, List.map_cons, List.map_nil, List.cons_append, List.nil_append, List.replicate_succ, List.replicate_zero, List.length_cons, List.length_nil, Nat.reduceLT, Nat.reduceAdd, Nat.zero_lt_succ, Nat.lt_add_left_iff_pos, reduceIte, Option.bind_some, Option.map_some, truth_b, decide_true, decide_false, Bool.not_true, Bool.not_false, tail_ret, e34, pm3, r1, ne_tI])]
  have dm := dict_mv (L := mvs m rs c) mvs_nodup (by have := mvs_len (c := c) (m := m) (rs := rs) (by omega) (by omega); omega)
  rw [exs_p (σ' := st ns (.imm kx) (.imm (pD m rs)) (.imm (tI c)) (.imm (.lst ((mvs m rs c).map mvD))) (.imm (.dct true ((mvs m rs c).map fun x => kD x.1) ((mvs m rs c).map fun x => tI x.2))) .un) (by simp only [b_body, q_var, q_cst, q_con, q_tup, q_lst, q_op, opX_p, q_chn, q_and, q_or, q_and1, q_and2, q_or1, q_or2, andX_t, andX_f, orX_t, orX_f, q_not, negX_b, q_neg, q_ife, iteE_t, iteE_f, q_idx, q_slc, q_evo0, q_evo1, q_call, q_callk, q_evk0, q_evk1, q_prim, q_isi, q_comp, q_at, q_in, q_get, q_get3, q_fld, q_res, res_p, q_nil, q_cons, consX_p, q_ite, q_rng, q_enum, q_zip,   s_nil, s_cons, seqX_n, seqX_r, seqX_x, seqX_b, seqX_c, s_asg, asgX_p, s_par, s_new, s_fz, s_clr, s_setix, s_augix, s_aug, s_app, s_ext, s_ife, iteX_t, iteX_f, s_for, s_whilL, s_newd0, s_newd1, s_setk, s_pop, s_par2, s_set2, set2X_n, s_ret, s_exp, s_raise, retD_r, retD_n, slot_z, slot_s, slotD_z, slotD_s, mlS_z, mlS_s, seqS_z, seqS_d, seqS_s, mdS_z, mdS_s, newS_l, fz_q, fzQ_l, fzQ_d, app_q, ext_q, set_q, get_q, getQ_l, put_q, putQ_d, it_e, it_1, it2_n, it2_c, put_n, put_t, puts_z, puts_c, clear_z, clear_c,   immS_z, immS_i, immS_u, immS_l, immS_d, M.pure_bind, M.fail_bind, M.exc_bind, M.opt_some, M.opt_none, List.set_cons_succ, List.set_cons_zero, List.map_cons, List.map_nil, List.cons_append, List.nil_append, List.replicate_succ, List.replicate_zero, List.length_cons, List.length_nil, Nat.reduceLT, Nat.reduceAdd, Nat.zero_lt_succ, Nat.lt_add_left_iff_pos, reduceIte, Option.bind_some, Option.map_some, truth_b, decide_true, decide_false, Bool.not_true, Bool.not_false, tail_ret, dm])]
  rw [exs_p (σ' := st ns (.imm kx) (.imm (pD m rs)) (.imm (tI c)) (.imm (.lst ((mvs m rs c).map mvD))) (.imm (.dct true ((mvs m rs c).map fun x => kD x.1) ((mvs m rs c).map fun x => tI x.2))) (.imm (.lst [kD ("drop", 0), kD ("drop", 9), kD ("rule", 8), kD ("rule", -1), .non, .tup [.str "drop"], .lst [.str "drop", .int 1], .tup []]))) (by
    simp only [b_body, q_var, q_cst, q_con, q_tup, q_lst, q_op, opX_p, q_chn, q_and, q_or, q_and1, q_and2, q_or1, q_or2, andX_t, andX_f, orX_t, orX_f, q_not, negX_b, q_neg, q_ife, iteE_t, iteE_f, q_idx, q_slc, q_evo0, q_evo1, q_call, q_callk, q_evk0, q_evk1, q_prim, q_isi, q_comp, q_at, q_in, q_get, q_get3, q_fld, q_res, res_p, q_nil, q_cons, consX_p, q_ite, q_rng, q_enum, q_zip,   s_nil, s_cons, seqX_n, seqX_r, seqX_x, seqX_b, seqX_c, s_asg, asgX_p, s_par, s_new, s_fz, s_clr, s_setix, s_augix, s_aug, s_app, s_ext, s_ife, iteX_t, iteX_f, s_for, s_whilL, s_newd0, s_newd1, s_setk, s_pop, s_par2, s_set2, set2X_n, s_ret, s_exp, s_raise, retD_r, retD_n, slot_z, slot_s, slotD_z, slotD_s, mlS_z, mlS_s, seqS_z, seqS_d, seqS_s, mdS_z, mdS_s, newS_l, fz_q, fzQ_l, fzQ_d, app_q, ext_q, set_q, get_q, getQ_l, put_q, putQ_d, it_e, it_1, it2_n, it2_c, put_n, put_t, puts_z, puts_c, clear_z, clear_c,   immS_z, immS_i, immS_u, immS_l, immS_d, M.pure_bind, M.fail_bind, M.exc_bind, M.opt_some, M.opt_none, List.set_cons_succ, List.set_cons_zero, List.map_cons, List.map_nil, List.cons_append, List.nil_append, List.replicate_succ, List.replicate_zero, List.length_cons, List.length_nil, Nat.reduceLT, Nat.reduceAdd, Nat.zero_lt_succ, Nat.lt_add_left_iff_pos, reduceIte, Option.bind_some, Option.map_some, truth_b, decide_true, decide_false, Bool.not_true, Bool.not_false, tail_ret]
    rfl)]
  have cd : ∀ (i : Nat) (z : Str) (σ : List Sl) (hi : i < σ.length), compE (upto F 141) (.n i) (.tup [.cst (.str z), .var i]) [] σ ((irange 0 5).map D.int) = M.pure ((irange 0 5).map fun j => kD (z, j)) := fun i z σ hi => by
    rw [compE0 (fun d => .tup [.str z, d]) _ fun d hd => by
      refine ⟨σ.set i (.imm d), put_n hi, ?_⟩
      have : slotD (σ.set i (.imm d)) i = M.pure d := by
        unfold slotD slot
        rw [List.getD_eq_getElem?_getD, List.getElem?_set_self hi]
        rfl
      simp only [b_body, q_var, q_cst, q_con, q_tup, q_lst, q_op, opX_p, q_chn, q_and, q_or, q_and1, q_and2, q_or1, q_or2, andX_t, andX_f, orX_t, orX_f, q_not, negX_b, q_neg, q_ife, iteE_t, iteE_f, q_idx, q_slc, q_evo0, q_evo1, q_call, q_callk, q_evk0, q_evk1, q_prim, q_isi, q_comp, q_at, q_in, q_get, q_get3, q_fld, q_res, res_p, q_nil, q_cons, consX_p, q_ite, q_rng, q_enum, q_zip,   s_nil, s_cons, seqX_n, seqX_r, seqX_x, seqX_b, seqX_c, s_asg, asgX_p, s_par, s_new, s_fz, s_clr, s_setix, s_augix, s_aug, s_app, s_ext, s_ife, iteX_t, iteX_f, s_for, s_whilL, s_newd0, s_newd1, s_setk, s_pop, s_par2, s_set2, set2X_n, s_ret, s_exp, s_raise, retD_r, retD_n, slot_z, slot_s, slotD_z, slotD_s, mlS_z, mlS_s, seqS_z, seqS_d, seqS_s, mdS_z, mdS_s, newS_l, fz_q, fzQ_l, fzQ_d, app_q, ext_q, set_q, get_q, getQ_l, put_q, putQ_d, it_e, it_1, it2_n, it2_c, put_n, put_t, puts_z, puts_c, clear_z, clear_c,   immS_z, immS_i, immS_u, immS_l, immS_d, M.pure_bind, M.fail_bind, M.exc_bind, M.opt_some, M.opt_none, List.set_cons_succ, List.set_cons_zero, List.map_cons, List.map_nil, List.cons_append, List.nil_append, List.replicate_succ, List.replicate_zero, List.length_cons, List.length_nil, Nat.reduceLT, Nat.reduceAdd, Nat.zero_lt_succ, Nat.lt_add_left_iff_pos, reduceIte, Option.bind_some, Option.map_some, truth_b, decide_true, decide_false, Bool.not_true, Bool.not_false, tail_ret, this], List.map_map]
    rfl
  have cd8 : ∀ (i : Nat) (z : Str) (σ : List Sl) (hi : i < σ.length), compE (upto F 141) (.n i) (.tup [.cst (.str z), .var i]) [] σ ((irange 0 8).map D.int) = M.pure ((irange 0 8).map fun j => kD (z, j)) := fun i z σ hi => by
    rw [compE0 (fun d => .tup [.str z, d]) _ fun d hd => by
      refine ⟨σ.set i (.imm d), put_n hi, ?_⟩
      have : slotD (σ.set i (.imm d)) i = M.pure d := by
        unfold slotD slot
        rw [List.getD_eq_getElem?_getD, List.getElem?_set_self hi]
        rfl
      simp only [b_body, q_var, q_cst, q_con, q_tup, q_lst, q_op, opX_p, q_chn, q_and, q_or, q_and1, q_and2, q_or1, q_or2, andX_t, andX_f, orX_t, orX_f, q_not, negX_b, q_neg, q_ife, iteE_t, iteE_f, q_idx, q_slc, q_evo0, q_evo1, q_call, q_callk, q_evk0, q_evk1, q_prim, q_isi, q_comp, q_at, q_in, q_get, q_get3, q_fld, q_res, res_p, q_nil, q_cons, consX_p, q_ite, q_rng, q_enum, q_zip,   s_nil, s_cons, seqX_n, seqX_r, seqX_x, seqX_b, seqX_c, s_asg, asgX_p, s_par, s_new, s_fz, s_clr, s_setix, s_augix, s_aug, s_app, s_ext, s_ife, iteX_t, iteX_f, s_for, s_whilL, s_newd0, s_newd1, s_setk, s_pop, s_par2, s_set2, set2X_n, s_ret, s_exp, s_raise, retD_r, retD_n, slot_z, slot_s, slotD_z, slotD_s, mlS_z, mlS_s, seqS_z, seqS_d, seqS_s, mdS_z, mdS_s, newS_l, fz_q, fzQ_l, fzQ_d, app_q, ext_q, set_q, get_q, getQ_l, put_q, putQ_d, it_e, it_1, it2_n, it2_c, put_n, put_t, puts_z, puts_c, clear_z, clear_c,   immS_z, immS_i, immS_u, immS_l, immS_d, M.pure_bind, M.fail_bind, M.exc_bind, M.opt_some, M.opt_none, List.set_cons_succ, List.set_cons_zero, List.map_cons, List.map_nil, List.cons_append, List.nil_append, List.replicate_succ, List.replicate_zero, List.length_cons, List.length_nil, Nat.reduceLT, Nat.reduceAdd, Nat.zero_lt_succ, Nat.lt_add_left_iff_pos, reduceIte, Option.bind_some, Option.map_some, truth_b, decide_true, decide_false, Bool.not_true, Bool.not_false, tail_ret, this], List.map_map]
    rfl
  have wr5 := walk_r1 (j := 5) (by omega) (by omega)
  have wr8 := walk_r1 (j := 8) (by omega) (by omega)
  have k4 : opD .ne (.tup [.str "step"]) (.tup [.str "step"]) = some (.bl false) := by kernel_rfl
  -- what is no step raises
  have odd : ∀ d, gd 2 d = true → (∀ l, d = .tup l → ∃ k, keyTOf d = some k) → itE (upto F 141) fuel (.n 8) [.ife (.or [.not (.isi (.var 8) .tuple), .op .nmem (.var 8) (.var 6)]) [.ife (.op .ne (.res (.call 34 [.var 3, .var 4, .var 8])) (.tup [.cst (.str "step")])) [.ret (.cst (.bl false))] []] []] [8]
      d (st ns (.imm kx) (.imm (pD m rs)) (.imm (tI c)) (.imm (.lst ((mvs m rs c).map mvD))) (.imm (.dct true ((mvs m rs c).map fun x => kD x.1) ((mvs m rs c).map fun x => tI x.2))) (.imm (.lst [kD ("drop", 0), kD ("drop", 9), kD ("rule", 8), kD ("rule", -1), .non, .tup [.str "drop"], .lst [.str "drop", .int 1], .tup []])))
      = M.pure (st ns (.imm kx) (.imm (pD m rs)) (.imm (tI c)) (.imm (.lst ((mvs m rs c).map mvD))) (.imm (.dct true ((mvs m rs c).map fun x => kD x.1) ((mvs m rs c).map fun x => tI x.2))) (.imm (.lst [kD ("drop", 0), kD ("drop", 9), kD ("rule", 8), kD ("rule", -1), .non, .tup [.str "drop"], .lst [.str "drop", .int 1], .tup []]))) := fun d gd2 hk => by
    have r1 := c34 (n := 2) P hc gd2
    by_cases ht : ∃ l, d = .tup l
    · obtain ⟨l, rfl⟩ := ht
      obtain ⟨k, hk⟩ := hk l rfl
      have it : (isTy (.tup l) .tuple).map D.bl = some (.bl true) := rfl
      have lk := look_mv k (mvs m rs c)
      have o : opD .nmem (.tup l) (.dct true ((mvs m rs c).map fun x => kD x.1) ((mvs m rs c).map fun x => tI x.2)) = some (.bl (!((mvs m rs c).find? fun x => decide (kk x.1 = k)).isSome)) := by
        show (((keyTOf (.tup l)).map fun k => lookT k _ _).map Option.isSome).map (fun c => D.bl (!c)) = _
        rw [hk]
        show some (D.bl (!(lookT k _ _).isSome)) = _
        rw [lk, Option.isSome_map]
      cases hf : (mvs m rs c).find? fun x => decide (kk x.1 = k) with
      | some x =>
        rw [hf] at o
        simp only [b_body, q_var, q_cst, q_con, q_tup, q_lst, q_op, opX_p, q_chn, q_and, q_or, q_and1, q_and2, q_or1, q_or2, andX_t, andX_f, orX_t, orX_f, q_not, negX_b, q_neg, q_ife, iteE_t, iteE_f, q_idx, q_slc, q_evo0, q_evo1, q_call, q_callk, q_evk0, q_evk1, q_prim, q_isi, q_comp, q_at, q_in, q_get, q_get3, q_fld, q_res, res_p, q_nil, q_cons, consX_p, q_ite, q_rng, q_enum, q_zip,   s_nil, s_cons, seqX_n, seqX_r, seqX_x, seqX_b, seqX_c, s_asg, asgX_p, s_par, s_new, s_fz, s_clr, s_setix, s_augix, s_aug, s_app, s_ext, s_ife, iteX_t, iteX_f, s_for, s_whilL, s_newd0, s_newd1, s_setk, s_pop, s_par2, s_set2, set2X_n, s_ret, s_exp, s_raise, retD_r, retD_n, slot_z, slot_s, slotD_z, slotD_s, mlS_z, mlS_s, seqS_z, seqS_d, seqS_s, mdS_z, mdS_s, newS_l, fz_q, fzQ_l, fzQ_d, app_q, ext_q, set_q, get_q, getQ_l, put_q, putQ_d, it_e, it_1, it2_n, it2_c, put_n, put_t, puts_z, puts_c, clear_z, clear_c,   immS_z, immS_i, immS_u, immS_l, immS_d, M.pure_bind, M.fail_bind, M.exc_bind, M.opt_some, M.opt_none, List.set_cons_succ, List.set_cons_zero, List.map_cons, List.map_nil, List.cons_append, List.nil_append, List.replicate_succ, List.replicate_zero, List.length_cons, List.length_nil, Nat.reduceLT, Nat.reduceAdd, Nat.zero_lt_succ, Nat.lt_add_left_iff_pos, reduceIte, Option.bind_some, Option.map_some, truth_b, decide_true, decide_false, Bool.not_true, Bool.not_false, tail_ret, it, o, Option.isSome_some]
      | none =>
        rw [hf] at o
        have fn : fnd (mvs m rs c) (.tup l) = none := by
          unfold fnd
          rw [hk]
          have : (fun x : Mv => decide (some (kk x.1) = some k)) = fun x => decide (kk x.1 = k) := by
            funext x
            exact decide_eq_decide.mpr ⟨fun h => Option.some.inj h, fun h => by rw [h]⟩
          rw [this, hf]
          split <;> rfl
        rw [fn] at r1
        simp only [b_body, q_var, q_cst, q_con, q_tup, q_lst, q_op, opX_p, q_chn, q_and, q_or, q_and1, q_and2, q_or1, q_or2, andX_t, andX_f, orX_t, orX_f, q_not, negX_b, q_neg, q_ife, iteE_t, iteE_f, q_idx, q_slc, q_evo0, q_evo1, q_call, q_callk, q_evk0, q_evk1, q_prim, q_isi, q_comp, q_at, q_in, q_get, q_get3, q_fld, q_res, res_p, q_nil, q_cons, consX_p, q_ite, q_rng, q_enum, q_zip,   s_nil, s_cons, seqX_n, seqX_r, seqX_x, seqX_b, seqX_c, s_asg, asgX_p, s_par, s_new, s_fz, s_clr, s_setix, s_augix, s_aug, s_app, s_ext, s_ife, iteX_t, iteX_f, s_for, s_whilL, s_newd0, s_newd1, s_setk, s_pop, s_par2, s_set2, set2X_n, s_ret, s_exp, s_raise, retD_r, retD_n, slot_z, slot_s, slotD_z, slotD_s, mlS_z, mlS_s, seqS_z, seqS_d, seqS_s, mdS_z, mdS_s, newS_l, fz_q, fzQ_l, fzQ_d, app_q, ext_q, set_q, get_q, getQ_l, put_q, putQ_d, it_e, it_1, it2_n, it2_c, put_n, put_t, puts_z, puts_c, clear_z, clear_c,   immS_z, immS_i, immS_u, immS_l, immS_d, M.pure_bind, M.fail_bind, M.exc_bind, M.opt_some, M.opt_none, List.set_cons_succ, List.set_cons_zero, List.map_cons, List.map_nil, List.cons_append, List.nil_append, List.replicate_succ, List.replicate_zero, List.length_cons, List.length_nil, Nat.reduceLT, Nat.reduceAdd, Nat.zero_lt_succ, Nat.lt_add_left_iff_pos, reduceIte, Option.bind_some, Option.map_some, truth_b, decide_true, decide_false, Bool.not_true, Bool.not_false, tail_ret, it, o, Option.isSome_none, e34, r1, res_step, k4]
    · have it : (isTy d .tuple).map D.bl = some (.bl false) := by
        have := gd_plain gd2
        cases d <;> first | rfl | exact absurd ⟨_, rfl⟩ ht | exact (Bool.false_ne_true this).elim
      have fn : fnd (mvs m rs c) d = none := by
        have : stepB d = false := by
          cases d <;> first | rfl | exact absurd ⟨_, rfl⟩ ht
        unfold fnd
        rw [this, if_neg Bool.false_ne_true]
      rw [fn] at r1
      simp only [b_body, q_var, q_cst, q_con, q_tup, q_lst, q_op, opX_p, q_chn, q_and, q_or, q_and1, q_and2, q_or1, q_or2, andX_t, andX_f, orX_t, orX_f, q_not, negX_b, q_neg, q_ife, iteE_t, iteE_f, q_idx, q_slc, q_evo0, q_evo1, q_call, q_callk, q_evk0, q_evk1, q_prim, q_isi, q_comp, q_at, q_in, q_get, q_get3, q_fld, q_res, res_p, q_nil, q_cons, consX_p, q_ite, q_rng, q_enum, q_zip,   s_nil, s_cons, seqX_n, seqX_r, seqX_x, seqX_b, seqX_c, s_asg, asgX_p, s_par, s_new, s_fz, s_clr, s_setix, s_augix, s_aug, s_app, s_ext, s_ife, iteX_t, iteX_f, s_for, s_whilL, s_newd0, s_newd1, s_setk, s_pop, s_par2, s_set2, set2X_n, s_ret, s_exp, s_raise, retD_r, retD_n, slot_z, slot_s, slotD_z, slotD_s, mlS_z, mlS_s, seqS_z, seqS_d, seqS_s, mdS_z, mdS_s, newS_l, fz_q, fzQ_l, fzQ_d, app_q, ext_q, set_q, get_q, getQ_l, put_q, putQ_d, it_e, it_1, it2_n, it2_c, put_n, put_t, puts_z, puts_c, clear_z, clear_c,   immS_z, immS_i, immS_u, immS_l, immS_d, M.pure_bind, M.fail_bind, M.exc_bind, M.opt_some, M.opt_none, List.set_cons_succ, List.set_cons_zero, List.map_cons, List.map_nil, List.cons_append, List.nil_append, List.replicate_succ, List.replicate_zero, List.length_cons, List.length_nil, Nat.reduceLT, Nat.reduceAdd, Nat.zero_lt_succ, Nat.lt_add_left_iff_pos, reduceIte, Option.bind_some, Option.map_some, truth_b, decide_true, decide_false, Bool.not_true, Bool.not_false, tail_ret, it, e34, r1, res_step, k4]
  have gdk : ∀ z j, (z = "drop" ∨ z = "rule") → gd 2 (kD (z, j)) = true := fun z j hz => by
    unfold kD gd
    refine gds_of fun d hd => ?_
    simp only [List.mem_cons, List.not_mem_nil, or_false] at hd
    rcases hd with rfl | rfl
    · rcases hz with rfl | rfl
      · exact str_ok.1
      · exact str_ok.2
    · exact gd_int
  have kdk : ∀ z j l, kD (z, j) = .tup l → ∃ k, keyTOf (kD (z, j)) = some k := fun z j l _ => ⟨_, rfl⟩
  have ll : (irange 0 5).length = 5 := by rw [irange_len]; rfl
  have l8 : (irange 0 8).length = 8 := by rw [irange_len]; rfl
  rw [exs_p (σ' := st ns (.imm kx) (.imm (pD m rs)) (.imm (tI c)) (.imm (.lst ((mvs m rs c).map mvD))) (.imm (.dct true ((mvs m rs c).map fun x => kD x.1) ((mvs m rs c).map fun x => tI x.2))) (.imm (.lst [kD ("drop", 0), kD ("drop", 9), kD ("rule", 8), kD ("rule", -1), .non, .tup [.str "drop"], .lst [.str "drop", .int 1], .tup []]))) (by
    simp only [b_body, q_var, q_cst, q_con, q_tup, q_lst, q_op, opX_p, q_chn, q_and, q_or, q_and1, q_and2, q_or1, q_or2, andX_t, andX_f, orX_t, orX_f, q_not, negX_b, q_neg, q_ife, iteE_t, iteE_f, q_idx, q_slc, q_evo0, q_evo1, q_call, q_callk, q_evk0, q_evk1, q_prim, q_isi, q_comp, q_at, q_in, q_get, q_get3, q_fld, q_res, res_p, q_nil, q_cons, consX_p, q_ite, q_rng, q_enum, q_zip,   s_nil, s_cons, seqX_n, seqX_r, seqX_x, seqX_b, seqX_c, s_asg, asgX_p, s_par, s_new, s_fz, s_clr, s_setix, s_augix, s_aug, s_app, s_ext, s_ife, iteX_t, iteX_f, s_for, s_whilL, s_newd0, s_newd1, s_setk, s_pop, s_par2, s_set2, set2X_n, s_ret, s_exp, s_raise, retD_r, retD_n, slot_z, slot_s, slotD_z, slotD_s, mlS_z, mlS_s, seqS_z, seqS_d, seqS_s, mdS_z, mdS_s, newS_l, fz_q, fzQ_l, fzQ_d, app_q, ext_q, set_q, get_q, getQ_l, put_q, putQ_d, it_e, it_1, it2_n, it2_c, put_n, put_t, puts_z, puts_c, clear_z, clear_c,   immS_z, immS_i, immS_u, immS_l, immS_d, M.pure_bind, M.fail_bind, M.exc_bind, M.opt_some, M.opt_none, List.set_cons_succ, List.set_cons_zero, List.map_cons, List.map_nil, List.cons_append, List.nil_append, List.replicate_succ, List.replicate_zero, List.length_cons, List.length_nil, Nat.reduceLT, Nat.reduceAdd, Nat.zero_lt_succ, Nat.lt_add_left_iff_pos, reduceIte, Option.bind_some, Option.map_some, truth_b, decide_true, decide_false, Bool.not_true, Bool.not_false, tail_ret, wr5, wr8, cd, cd8]
    rw [op_addl (by rw [List.length_map, ll]; decide)]
    simp only [b_body, q_var, q_cst, q_con, q_tup, q_lst, q_op, opX_p, q_chn, q_and, q_or, q_and1, q_and2, q_or1, q_or2, andX_t, andX_f, orX_t, orX_f, q_not, negX_b, q_neg, q_ife, iteE_t, iteE_f, q_idx, q_slc, q_evo0, q_evo1, q_call, q_callk, q_evk0, q_evk1, q_prim, q_isi, q_comp, q_at, q_in, q_get, q_get3, q_fld, q_res, res_p, q_nil, q_cons, consX_p, q_ite, q_rng, q_enum, q_zip,   s_nil, s_cons, seqX_n, seqX_r, seqX_x, seqX_b, seqX_c, s_asg, asgX_p, s_par, s_new, s_fz, s_clr, s_setix, s_augix, s_aug, s_app, s_ext, s_ife, iteX_t, iteX_f, s_for, s_whilL, s_newd0, s_newd1, s_setk, s_pop, s_par2, s_set2, set2X_n, s_ret, s_exp, s_raise, retD_r, retD_n, slot_z, slot_s, slotD_z, slotD_s, mlS_z, mlS_s, seqS_z, seqS_d, seqS_s, mdS_z, mdS_s, newS_l, fz_q, fzQ_l, fzQ_d, app_q, ext_q, set_q, get_q, getQ_l, put_q, putQ_d, it_e, it_1, it2_n, it2_c, put_n, put_t, puts_z, puts_c, clear_z, clear_c,   immS_z, immS_i, immS_u, immS_l, immS_d, M.pure_bind, M.fail_bind, M.exc_bind, M.opt_some, M.opt_none, List.set_cons_succ, List.set_cons_zero, List.map_cons, List.map_nil, List.cons_append, List.nil_append, List.replicate_succ, List.replicate_zero, List.length_cons, List.length_nil, Nat.reduceLT, Nat.reduceAdd, Nat.zero_lt_succ, Nat.lt_add_left_iff_pos, reduceIte, Option.bind_some, Option.map_some, truth_b, decide_true, decide_false, Bool.not_true, Bool.not_false, tail_ret]
    rw [op_addl (by rw [List.length_map, l8]; simp [ll])]
    simp only [b_body, q_var, q_cst, q_con, q_tup, q_lst, q_op, opX_p, q_chn, q_and, q_or, q_and1, q_and2, q_or1, q_or2, andX_t, andX_f, orX_t, orX_f, q_not, negX_b, q_neg, q_ife, iteE_t, iteE_f, q_idx, q_slc, q_evo0, q_evo1, q_call, q_callk, q_evk0, q_evk1, q_prim, q_isi, q_comp, q_at, q_in, q_get, q_get3, q_fld, q_res, res_p, q_nil, q_cons, consX_p, q_ite, q_rng, q_enum, q_zip,   s_nil, s_cons, seqX_n, seqX_r, seqX_x, seqX_b, seqX_c, s_asg, asgX_p, s_par, s_new, s_fz, s_clr, s_setix, s_augix, s_aug, s_app, s_ext, s_ife, iteX_t, iteX_f, s_for, s_whilL, s_newd0, s_newd1, s_setk, s_pop, s_par2, s_set2, set2X_n, s_ret, s_exp, s_raise, retD_r, retD_n, slot_z, slot_s, slotD_z, slotD_s, mlS_z, mlS_s, seqS_z, seqS_d, seqS_s, mdS_z, mdS_s, newS_l, fz_q, fzQ_l, fzQ_d, app_q, ext_q, set_q, get_q, getQ_l, put_q, putQ_d, it_e, it_1, it2_n, it2_c, put_n, put_t, puts_z, puts_c, clear_z, clear_c,   immS_z, immS_i, immS_u, immS_l, immS_d, M.pure_bind, M.fail_bind, M.exc_bind, M.opt_some, M.opt_none, List.set_cons_succ, List.set_cons_zero, List.map_cons, List.map_nil, List.cons_append, List.nil_append, List.replicate_succ, List.replicate_zero, List.length_cons, List.length_nil, Nat.reduceLT, Nat.reduceAdd, Nat.zero_lt_succ, Nat.lt_add_left_iff_pos, reduceIte, Option.bind_some, Option.map_some, truth_b, decide_true, decide_false, Bool.not_true, Bool.not_false, tail_ret, w]
    refine loop_id fun d hd => ?_
    simp only [List.mem_cons, List.mem_append] at hd
    rcases hd with rfl | rfl | rfl | rfl | rfl | rfl | rfl | rfl | hd | hd
    · exact odd _ (gdk _ _ (.inl rfl)) fun l h => ⟨_, rfl⟩
    · exact odd _ (gdk _ _ (.inl rfl)) fun l h => ⟨_, rfl⟩
    · exact odd _ (gdk _ _ (.inr rfl)) fun l h => ⟨_, rfl⟩
    · exact odd _ (gdk _ _ (.inr rfl)) fun l h => ⟨_, rfl⟩
    · exact odd _ rfl fun l h => by cases h
    · exact odd _ (by decide +kernel) fun l h => ⟨_, rfl⟩
    · exact odd _ (by decide +kernel) fun l h => by cases h
    · exact odd _ rfl fun l h => ⟨_, rfl⟩
    · obtain ⟨j, _, rfl⟩ := List.mem_map.mp hd
      exact odd _ (gdk _ _ (.inl rfl)) fun l h => ⟨_, rfl⟩
    · obtain ⟨j, _, rfl⟩ := List.mem_map.mp hd
      exact odd _ (gdk _ _ (.inr rfl)) fun l h => ⟨_, rfl⟩)]
  have rT := c34 (n := 2) (v := .tup [.str "rule", .bl true]) P hc (by decide +kernel)
  have fT : fnd (mvs m rs c) (.tup [.str "rule", .bl true]) = none := by
    unfold fnd
    rw [show stepB (.tup [.str "rule", .bl true]) = false from rfl, if_neg Bool.false_ne_true]
  rw [fT] at rT
  rw [exs_p (σ' := st ns (.imm kx) (.imm (pD m rs)) (.imm (tI c)) (.imm (.lst ((mvs m rs c).map mvD))) (.imm (.dct true ((mvs m rs c).map fun x => kD x.1) ((mvs m rs c).map fun x => tI x.2))) (.imm (.lst [kD ("drop", 0), kD ("drop", 9), kD ("rule", 8), kD ("rule", -1), .non, .tup [.str "drop"], .lst [.str "drop", .int 1], .tup []]))) (by simp only [b_body, q_var, q_cst, q_con, q_tup, q_lst, q_op, opX_p, q_chn, q_and, q_or, q_and1, q_and2, q_or1, q_or2, andX_t, andX_f, orX_t, orX_f, q_not, negX_b, q_neg, q_ife, iteE_t, iteE_f, q_idx, q_slc, q_evo0, q_evo1, q_call, q_callk, q_evk0, q_evk1, q_prim, q_isi, q_comp, q_at, q_in, q_get, q_get3, q_fld, q_res, res_p, q_nil, q_cons, consX_p, q_ite, q_rng, q_enum, q_zip,   s_nil, s_cons, seqX_n, seqX_r, seqX_x, seqX_b, seqX_c, s_asg, asgX_p, s_par, s_new, s_fz, s_clr, s_setix, s_augix, s_aug, s_app, s_ext, s_ife, iteX_t, iteX_f, s_for, s_whilL, s_newd0, s_newd1, s_setk, s_pop, s_par2, s_set2, set2X_n, s_ret, s_exp, s_raise, retD_r, retD_n, slot_z, slot_s, slotD_z, slotD_s, mlS_z, mlS_s, seqS_z, seqS_d, seqS_s, mdS_z, mdS_s, newS_l, fz_q, fzQ_l, fzQ_d, app_q, ext_q, set_q, get_q, getQ_l, put_q, putQ_d, it_e, it_1, it2_n, it2_c, put_n, put_t, puts_z, puts_c, clear_z, clear_c,   immS_z, immS_i, immS_u, immS_l, immS_d, M.pure_bind, M.fail_bind, M.exc_bind, M.opt_some, M.opt_none, List.set_cons_succ, List.set_cons_zero, List.map_cons, List.map_nil, List.cons_append, List.nil_append, List.replicate_succ, List.replicate_zero, List.length_cons, List.length_nil, Nat.reduceLT, Nat.reduceAdd, Nat.zero_lt_succ, Nat.lt_add_left_iff_pos, reduceIte, Option.bind_some, Option.map_some, truth_b, decide_true, decide_false, Bool.not_true, Bool.not_false, tail_ret, e34, rT, res_step, k4])]
  refine got_cons (P := fun σ' => σ' = st ns (.imm kx) (.imm (pD m rs)) (.imm (tI c)) (.imm (.lst ((mvs m rs c).map mvD))) (.imm (.dct true ((mvs m rs c).map fun x => kD x.1) ((mvs m rs c).map fun x => tI x.2))) (.imm (.lst [kD ("drop", 0), kD ("drop", 9), kD ("rule", 8), kD ("rule", -1), .non, .tup [.str "drop"], .lst [.str "drop", .int 1], .tup []]))) ?_ fun σ' hσ => ?_
  · rw [s_ife]
    unfold iteX
    refine Got.bind (P := fun d => d = .bl false) ?_ fun d hd => ?_
    · rw [q_not]
      unfold negX
      refine Got.bind (P := fun d => d = .bl true) (got_call (ds := [.scr ns, .obj 0, pD m rs, tI c]) (fun g => rfl) (by rw [upto_lt (by decide)]; exact e140 hl P C hc)) fun d hd => ?_
      subst hd
      exact .pure rfl
    · subst hd
      exact .of (fun g => rfl) ⟨_, rfl, rfl⟩
  · subst hσ
    exact .of (fun g => rfl) ⟨_, _, _, _, _, rfl⟩
theorem law_true : ∃ g', Φ 141 [.scr ns] [] = some (.ok (.bl true), g') := by
  have h1 : Got ns.length (exs (upto F 141) fuel [.forr (.n 2) (.rng [.cst (.int 5)]) turn [2, 3, 4, 5, 9, 10, 6, 7, 8], .ret (.cst (.bl true))] (st ns .un .un .un .un .un .un)) fun f => ∃ d, f = .ret d ∧ d = .bl true := by
    refine got_cons (P := fun σ' => σ' = st ns .un .un .un .un .un .un) ?_ fun σ' hσ => ?_
    · refine got_for (items := rangeD 0 5) (.of (fun g => rfl) rfl) ?_
      refine (got_loop (fun _ σ' => σ' = st ns .un .un .un .un .un .un) (rangeD 0 5) 0 _ rfl fun i x σ' hi hσ => ?_).imp fun fl ⟨σ', h1, h2⟩ => ⟨σ', h1, h2⟩
      subst hσ
      exact ⟨st ns (.imm x) .un .un .un .un .un, rfl, (turn_ok hl).imp fun fl ⟨p, c, due, known, odds, h⟩ => ⟨_, h, rfl⟩⟩
    · subst hσ
      exact .of (a := .ret (.bl true)) (fun g => ofM (by simp only [b_body, q_var, q_cst, q_con, q_tup, q_lst, q_op, opX_p, q_chn, q_and, q_or, q_and1, q_and2, q_or1, q_or2, andX_t, andX_f, orX_t, orX_f, q_not, negX_b, q_neg, q_ife, iteE_t, iteE_f, q_idx, q_slc, q_evo0, q_evo1, q_call, q_callk, q_evk0, q_evk1, q_prim, q_isi, q_comp, q_at, q_in, q_get, q_get3, q_fld, q_res, res_p, q_nil, q_cons, consX_p, q_ite, q_rng, q_enum, q_zip,   s_nil, s_cons, seqX_n, seqX_r, seqX_x, seqX_b, seqX_c, s_asg, asgX_p, s_par, s_new, s_fz, s_clr, s_setix, s_augix, s_aug, s_app, s_ext, s_ife, iteX_t, iteX_f, s_for, s_whilL, s_newd0, s_newd1, s_setk, s_pop, s_par2, s_set2, set2X_n, s_ret, s_exp, s_raise, retD_r, retD_n, slot_z, slot_s, slotD_z, slotD_s, mlS_z, mlS_s, seqS_z, seqS_d, seqS_s, mdS_z, mdS_s, newS_l, fz_q, fzQ_l, fzQ_d, app_q, ext_q, set_q, get_q, getQ_l, put_q, putQ_d, it_e, it_1, it2_n, it2_c, put_n, put_t, puts_z, puts_c, clear_z, clear_c,   immS_z, immS_i, immS_u, immS_l, immS_d, M.pure_bind, M.fail_bind, M.exc_bind, M.opt_some, M.opt_none, List.set_cons_succ, List.set_cons_zero, List.map_cons, List.map_nil, List.cons_append, List.nil_append, List.replicate_succ, List.replicate_zero, List.length_cons, List.length_nil, Nat.reduceLT, Nat.reduceAdd, Nat.zero_lt_succ, Nat.lt_add_left_iff_pos, reduceIte, Option.bind_some, Option.map_some, truth_b, decide_true, decide_false, Bool.not_true, Bool.not_false, tail_ret]) g) ⟨_, rfl, rfl⟩
  obtain ⟨a, g', e1, ⟨d, rfl, rfl⟩, _⟩ := h1 [.town 0 []] ⟨0, [], rfl, by simp, by simp⟩
  refine ⟨g', ?_⟩
  refine body_ret (Φ := upto F 141) (fuel := fuel) (b := b141) (k := 12) (as := [.scr ns]) ?_
  show exs (upto F 141) fuel (.asg (.n 1) (.call 0 []) :: [.forr (.n 2) (.rng [.cst (.int 5)]) turn [2, 3, 4, 5, 9, 10, 6, 7, 8], .ret (.cst (.bl true))]) [.imm (.scr ns), .un, .un, .un, .un, .un, .un, .un, .un, .un, .un, .un, .un] [] = _
  rw [exs_asg (d := .obj 0) (g1 := [.town 0 []]) (σ' := st ns .un .un .un .un .un .un) (by
    rw [ev, bind_ok (a := []) (g1 := []) rfl]
    rw [upto_lt (by decide)]
    rfl) rfl]
  exact e1
end
end K02
namespace K02
open PySem PySem.Spec L2 MC GL
theorem c3 : chkSs T ⟨N3, defScope (top 21), fun _ => true, 3, false⟩ b3 (defBody (top 21)) = true := by decide +kernel
theorem c4 : chkSs T ⟨N4, defScope (top 22), fun _ => true, 4, false⟩ b4 (defBody (top 22)) = true := by decide +kernel
theorem c5 : chkSs T ⟨N5, defScope (top 23), fun _ => true, 5, false⟩ b5 (defBody (top 23)) = true := by decide +kernel
theorem c6 : chkSs T ⟨N6, defScope (top 24), fun _ => true, 6, false⟩ b6 (defBody (top 24)) = true := by decide +kernel
theorem c7 : chkSs T ⟨N7, defScope (top 25), fun _ => true, 7, false⟩ b7 (defBody (top 25)) = true := by decide +kernel
theorem c8 : chkSs T ⟨N8, defScope (top 35), fun _ => true, 8, false⟩ b8 (defBody (top 35)) = true := by decide +kernel
theorem c9 : chkSs T ⟨N9, defScope (top 48), fun _ => true, 9, false⟩ b9 (defBody (top 48)) = true := by decide +kernel
theorem c10 : chkSs T ⟨N10, defScope (top 49), fun _ => true, 10, false⟩ b10 (defBody (top 49)) = true := by decide +kernel
theorem c11 : chkSs T ⟨N11, defScope (top 33), fun _ => true, 11, false⟩ b11 (defBody (top 33)) = true := by decide +kernel
theorem c12 : chkSs T ⟨N12, defScope (top 36), fun _ => true, 12, false⟩ b12 (defBody (top 36)) = true := by decide +kernel
theorem c13 : chkSs T ⟨N13, defScope (top 37), fun _ => true, 13, false⟩ b13 (defBody (top 37)) = true := by decide +kernel
theorem c14 : chkSs T ⟨N14, defScope (top 38), fun _ => true, 14, false⟩ b14 (defBody (top 38)) = true := by decide +kernel
theorem c15 : chkSs T ⟨N15, defScope (top 39), fun _ => true, 15, false⟩ b15 (defBody (top 39)) = true := by decide +kernel
theorem c18 : chkSs T ⟨N18, defScope (top 50), fun _ => true, 18, false⟩ b18 (defBody (top 50)) = true := by decide +kernel
theorem c19 : chkSs T ⟨N19, defScope (top 26), fun _ => true, 19, false⟩ b19 (defBody (top 26)) = true := by decide +kernel
theorem c20 : chkSs T ⟨N20, defScope (top 28), fun _ => true, 20, false⟩ b20 (defBody (top 28)) = true := by decide +kernel
theorem c21 : chkSs T ⟨N21, defScope (top 27), fun _ => true, 21, false⟩ b21 (defBody (top 27)) = true := by decide +kernel
theorem c22 : chkSs T ⟨N22, defScope (top 29), fun _ => true, 22, false⟩ b22 (defBody (top 29)) = true := by decide +kernel
theorem c23 : chkSs T ⟨N23, defScope (top 30), fun _ => true, 23, false⟩ b23 (defBody (top 30)) = true := by decide +kernel
theorem c28 : chkSs T ⟨N28, defScope (top 31), fun _ => true, 28, false⟩ b28 (defBody (top 31)) = true := by decide +kernel
theorem c29 : chkSs T ⟨N29, defScope (top 32), fun _ => true, 29, false⟩ b29 (defBody (top 32)) = true := by decide +kernel
theorem c30 : chkSs T ⟨N30, defScope (top 34), fun _ => true, 30, false⟩ b30 (defBody (top 34)) = true := by decide +kernel
theorem c31 : chkSs T ⟨N31, defScope (top 40), fun _ => true, 31, false⟩ b31 (defBody (top 40)) = true := by decide +kernel
theorem c32 : chkSs T ⟨N32, defScope (top 41), fun _ => true, 32, false⟩ b32 (defBody (top 41)) = true := by decide +kernel
theorem c33 : chkSs T ⟨N33, defScope (top 42), fun _ => true, 33, false⟩ b33 (defBody (top 42)) = true := by decide +kernel
theorem c34 : chkSs T ⟨N34, defScope (top 43), fun _ => true, 34, false⟩ b34 (defBody (top 43)) = true := by decide +kernel
theorem c99 : chkSs T ⟨N99, defScope (top 51), fun _ => true, 99, false⟩ b99 (defBody (top 51)) = true := by decide +kernel
theorem c140 : chkSs T ⟨N140, defScope (top 52), fun _ => true, 140, true⟩ b140 (defBody (top 52)) = true := by decide +kernel
theorem c141 : chkSs T ⟨N141, defScope (top 53), fun _ => true, 141, true⟩ b141 (defBody (top 53)) = true := by decide +kernel
theorem kwm {n m : Nat} {ks : List Str} {perm : List Nat} (z : T.kw.contains (n, m, ks, perm) = true) : (n, m, ks, perm) ∈ T.kw := by simpa using z
theorem glok : glOk T gl = true := by decide +kernel
section
variable {P : Program} {w : World} {K : PySem.W.Frag} {h : Heap} {mg : Str → Option Value} {base : Heap}
theorem m0 (X : K.In h) (G : h.Ns mainGlobals mg) (c : Says T gl fn w h K) (tb : ∀ q ∈ T.lm, LamX.TabB base mg (He.cT K (q, none)).1 (He.cT K (q, none)).2) : Mdl T (CcT T K) P w mg base Φ 0 := by
  refine mdl_r (mdl_0 X G c glok tb) fun _ => ?_
  obtain ⟨fd, Fd⟩ := c.t.d.def_ 31 (d := dd "_law_result" 45) rfl
  exact res_of X G c glok rfl (mdl_0 (Φ := Φ) X G c glok tb) Fd (fun _ _ _ _ _ _ us hl => match us, hl with | [_], _ => rfl) (by decide +kernel) (by decide +kernel)
theorem m1 (X : K.In h) (G : h.Ns mainGlobals mg) (c : Says T gl fn w h K) (tb : ∀ q ∈ T.lm, LamX.TabB base mg (He.cT K (q, none)).1 (He.cT K (q, none)).2) : Mdl T (CcT T K) P w mg base Φ 1 := by
  obtain ⟨fd, Fd⟩ := c.t.d.def_ 0 (d := dd "_law_begun" 47) rfl
  have hm : mg "_law_begun" = some (.ref (He.ga K "_law_begun")) := glo_at X G c (by decide +kernel)
  exact step_own (ps := []) (N := []) (k := 0) (mB := fun σ => M.bind (begunF []) fun d => M.pure (.ret d)) (m0 X G c tb) rfl Fd hm (fun _ _ _ _ _ _ us hl => match us, hl with | [], _ => rfl) (fun m ks perm z => by have z := kwm z; simp [T] at z) (by decide +kernel) rfl rfl (fun X W H0 ρ0 Gd => liftSs_eq (sS_cons (sS_ret sE_begun) sS_nil) fun σ => rfl) (fun as _ => rfl)
theorem m2 (X : K.In h) (G : h.Ns mainGlobals mg) (c : Says T gl fn w h K) (tb : ∀ q ∈ T.lm, LamX.TabB base mg (He.cT K (q, none)).1 (He.cT K (q, none)).2) : Mdl T (CcT T K) P w mg base Φ 2 := by
  obtain ⟨fd, Fd⟩ := c.t.d.def_ 1 (d := dd "_law_draw" 46) rfl
  have hm : mg "_law_draw" = some (.ref (He.ga K "_law_draw")) := glo_at X G c (by decide +kernel)
  exact step_own (ps := ["script", "town", "many"]) (N := drawN) (k := 3) (mB := drawB) (m1 X G c tb) rfl Fd hm (fun _ _ _ _ _ _ us hl => match us, hl with | [_, _, _], _ => rfl) (fun m ks perm z => by have z := kwm z; simp [T] at z) (by decide +kernel) rfl rfl (fun X W H0 ρ0 Gd => draw_run Gd rfl (by decide +kernel) (by decide +kernel) (by decide +kernel) (by decide +kernel) (by decide +kernel) (by decide +kernel) (by decide +kernel) (by decide +kernel) (by decide +kernel)) (fun as _ => rfl)
theorem m3 (X : K.In h) (G : h.Ns mainGlobals mg) (c : Says T gl fn w h K) (tb : ∀ q ∈ T.lm, LamX.TabB base mg (He.cT K (q, none)).1 (He.cT K (q, none)).2) : Mdl T (CcT T K) P w mg base Φ 3 := (m2 X G c tb).skips (by decide) (by decide +kernel)
theorem m4 (X : K.In h) (G : h.Ns mainGlobals mg) (c : Says T gl fn w h K) (tb : ∀ q ∈ T.lm, LamX.TabB base mg (He.cT K (q, none)).1 (He.cT K (q, none)).2) : Mdl T (CcT T K) P w mg base Φ 4 := by
  obtain ⟨fd, Fd⟩ := c.t.d.def_ 2 (d := dd "is_between" 21) rfl
  have hm : mg "is_between" = some (.ref (He.ga K "is_between")) := glo_at X G c (by decide +kernel)
  exact step_def (ps := ["value", "low", "high"]) (N := N3) (k := 0) (fuel := fuel) (b := b3) (m3 X G c tb) rfl Fd hm (fun _ _ _ _ _ _ us hl => match us, hl with | [_, _, _], _ => rfl) (fun m ks perm z => by have z := kwm z; simp [T] at z) (by decide +kernel) rfl rfl (lam := false) (fun z => absurd z Bool.false_ne_true) c3 rfl
theorem m5 (X : K.In h) (G : h.Ns mainGlobals mg) (c : Says T gl fn w h K) (tb : ∀ q ∈ T.lm, LamX.TabB base mg (He.cT K (q, none)).1 (He.cT K (q, none)).2) : Mdl T (CcT T K) P w mg base Φ 5 := by
  obtain ⟨fd, Fd⟩ := c.t.d.def_ 3 (d := dd "are_between" 22) rfl
  have hm : mg "are_between" = some (.ref (He.ga K "are_between")) := glo_at X G c (by decide +kernel)
  exact step_def (ps := ["values", "low", "high"]) (N := N4) (k := 1) (fuel := fuel) (b := b4) (m4 X G c tb) rfl Fd hm (fun _ _ _ _ _ _ us hl => match us, hl with | [_, _, _], _ => rfl) (fun m ks perm z => by have z := kwm z; simp [T] at z) (by decide +kernel) rfl rfl (lam := false) (fun z => absurd z Bool.false_ne_true) c4 rfl
theorem m6 (X : K.In h) (G : h.Ns mainGlobals mg) (c : Says T gl fn w h K) (tb : ∀ q ∈ T.lm, LamX.TabB base mg (He.cT K (q, none)).1 (He.cT K (q, none)).2) : Mdl T (CcT T K) P w mg base Φ 6 := by
  obtain ⟨fd, Fd⟩ := c.t.d.def_ 4 (d := dd "is_ascending" 23) rfl
  have hm : mg "is_ascending" = some (.ref (He.ga K "is_ascending")) := glo_at X G c (by decide +kernel)
  exact step_def (ps := ["values"]) (N := N5) (k := 2) (fuel := fuel) (b := b5) (m5 X G c tb) rfl Fd hm (fun _ _ _ _ _ _ us hl => match us, hl with | [_], _ => rfl) (fun m ks perm z => by have z := kwm z; simp [T] at z) (by decide +kernel) rfl rfl (lam := false) (fun z => absurd z Bool.false_ne_true) c5 rfl
theorem m7 (X : K.In h) (G : h.Ns mainGlobals mg) (c : Says T gl fn w h K) (tb : ∀ q ∈ T.lm, LamX.TabB base mg (He.cT K (q, none)).1 (He.cT K (q, none)).2) : Mdl T (CcT T K) P w mg base Φ 7 := by
  obtain ⟨fd, Fd⟩ := c.t.d.def_ 5 (d := dd "is_rule" 24) rfl
  have hm : mg "is_rule" = some (.ref (He.ga K "is_rule")) := glo_at X G c (by decide +kernel)
  exact step_def (ps := ["many", "value"]) (N := N6) (k := 5) (fuel := fuel) (b := b6) (m6 X G c tb) rfl Fd hm (fun _ _ _ _ _ _ us hl => match us, hl with | [_, _], _ => rfl) (fun m ks perm z => by have z := kwm z; simp [T] at z) (by decide +kernel) rfl rfl (lam := false) (fun z => absurd z Bool.false_ne_true) c6 rfl
theorem m8 (X : K.In h) (G : h.Ns mainGlobals mg) (c : Says T gl fn w h K) (tb : ∀ q ∈ T.lm, LamX.TabB base mg (He.cT K (q, none)).1 (He.cT K (q, none)).2) : Mdl T (CcT T K) P w mg base Φ 8 := by
  obtain ⟨fd, Fd⟩ := c.t.d.def_ 6 (d := dd "is_protocol" 25) rfl
  have hm : mg "is_protocol" = some (.ref (He.ga K "is_protocol")) := glo_at X G c (by decide +kernel)
  exact step_def (ps := ["value"]) (N := N7) (k := 3) (fuel := fuel) (b := b7) (m7 X G c tb) rfl Fd hm (fun _ _ _ _ _ _ us hl => match us, hl with | [_], _ => rfl) (fun m ks perm z => by have z := kwm z; simp [T] at z) (by decide +kernel) rfl rfl (lam := false) (fun z => absurd z Bool.false_ne_true) c7 rfl
theorem m9 (X : K.In h) (G : h.Ns mainGlobals mg) (c : Says T gl fn w h K) (tb : ∀ q ∈ T.lm, LamX.TabB base mg (He.cT K (q, none)).1 (He.cT K (q, none)).2) : Mdl T (CcT T K) P w mg base Φ 9 := by
  obtain ⟨fd, Fd⟩ := c.t.d.def_ 7 (d := dd "others" 35) rfl
  have hm : mg "others" = some (.ref (He.ga K "others")) := glo_at X G c (by decide +kernel)
  exact step_def (ps := ["configuration", "state"]) (N := N8) (k := 0) (fuel := fuel) (b := b8) (m8 X G c tb) rfl Fd hm (fun _ _ _ _ _ _ us hl => match us, hl with | [_, _], _ => rfl) (fun m ks perm z => by have z := kwm z; simp [T] at z) (by decide +kernel) rfl rfl (lam := false) (fun z => absurd z Bool.false_ne_true) c8 rfl
theorem m10 (X : K.In h) (G : h.Ns mainGlobals mg) (c : Says T gl fn w h K) (tb : ∀ q ∈ T.lm, LamX.TabB base mg (He.cT K (q, none)).1 (He.cT K (q, none)).2) : Mdl T (CcT T K) P w mg base Φ 10 := by
  obtain ⟨fd, Fd⟩ := c.t.d.def_ 8 (d := dd "_law_rule" 48) rfl
  have hm : mg "_law_rule" = some (.ref (He.ga K "_law_rule")) := glo_at X G c (by decide +kernel)
  exact step_def (ps := ["script", "town", "many"]) (N := N9) (k := 6) (fuel := fuel) (b := b9) (m9 X G c tb) rfl Fd hm (fun _ _ _ _ _ _ us hl => match us, hl with | [_, _, _], _ => rfl) (fun m ks perm z => by have z := kwm z; simp [T] at z) (by decide +kernel) rfl rfl (lam := false) (fun z => absurd z Bool.false_ne_true) c9 rfl
theorem m11 (X : K.In h) (G : h.Ns mainGlobals mg) (c : Says T gl fn w h K) (tb : ∀ q ∈ T.lm, LamX.TabB base mg (He.cT K (q, none)).1 (He.cT K (q, none)).2) : Mdl T (CcT T K) P w mg base Φ 11 := by
  obtain ⟨fd, Fd⟩ := c.t.d.def_ 9 (d := dd "_law_protocol" 49) rfl
  have hm : mg "_law_protocol" = some (.ref (He.ga K "_law_protocol")) := glo_at X G c (by decide +kernel)
  exact step_def (ps := ["script", "town", "states", "rules"]) (N := N10) (k := 2) (fuel := fuel) (b := b10) (m10 X G c tb) rfl Fd hm (fun _ _ _ _ _ _ us hl => match us, hl with | [_, _, _, _], _ => rfl) (fun m ks perm z => by have z := kwm z; simp [T] at z) (by decide +kernel) rfl rfl (lam := false) (fun z => absurd z Bool.false_ne_true) c10 rfl
theorem m12 (X : K.In h) (G : h.Ns mainGlobals mg) (c : Says T gl fn w h K) (tb : ∀ q ∈ T.lm, LamX.TabB base mg (He.cT K (q, none)).1 (He.cT K (q, none)).2) : Mdl T (CcT T K) P w mg base Φ 12 := by
  obtain ⟨fd, Fd⟩ := c.t.d.def_ 10 (d := dd "first_of" 33) rfl
  have hm : mg "first_of" = some (.ref (He.ga K "first_of")) := glo_at X G c (by decide +kernel)
  exact step_def (ps := ["protocol", "caches"]) (N := N11) (k := 0) (fuel := fuel) (b := b11) (m11 X G c tb) rfl Fd hm (fun _ _ _ _ _ _ us hl => match us, hl with | [_, _], _ => rfl) (fun m ks perm z => by have z := kwm z; simp [T] at z) (by decide +kernel) rfl rfl (lam := false) (fun z => absurd z Bool.false_ne_true) c11 rfl
theorem m13 (X : K.In h) (G : h.Ns mainGlobals mg) (c : Says T gl fn w h K) (tb : ∀ q ∈ T.lm, LamX.TabB base mg (He.cT K (q, none)).1 (He.cT K (q, none)).2) : Mdl T (CcT T K) P w mg base Φ 13 := by
  obtain ⟨fd, Fd⟩ := c.t.d.def_ 11 (d := dd "is_possible" 36) rfl
  have hm : mg "is_possible" = some (.ref (He.ga K "is_possible")) := glo_at X G c (by decide +kernel)
  exact step_def (ps := ["configuration", "rule"]) (N := N12) (k := 7) (fuel := fuel) (b := b12) (m12 X G c tb) rfl Fd hm (fun _ _ _ _ _ _ us hl => match us, hl with | [_, _], _ => rfl) (fun m ks perm z => by have z := kwm z; simp [T] at z) (by decide +kernel) rfl rfl (lam := false) (fun z => absurd z Bool.false_ne_true) c12 rfl
theorem m14 (X : K.In h) (G : h.Ns mainGlobals mg) (c : Says T gl fn w h K) (tb : ∀ q ∈ T.lm, LamX.TabB base mg (He.cT K (q, none)).1 (He.cT K (q, none)).2) : Mdl T (CcT T K) P w mg base Φ 14 := by
  obtain ⟨fd, Fd⟩ := c.t.d.def_ 12 (d := dd "performed" 37) rfl
  have hm : mg "performed" = some (.ref (He.ga K "performed")) := glo_at X G c (by decide +kernel)
  exact step_def (ps := ["configuration", "rule"]) (N := N13) (k := 8) (fuel := fuel) (b := b13) (m13 X G c tb) rfl Fd hm (fun _ _ _ _ _ _ us hl => match us, hl with | [_, _], _ => rfl) (fun m ks perm z => by have z := kwm z; simp [T] at z) (by decide +kernel) rfl rfl (lam := false) (fun z => absurd z Bool.false_ne_true) c13 rfl
theorem m15 (X : K.In h) (G : h.Ns mainGlobals mg) (c : Says T gl fn w h K) (tb : ∀ q ∈ T.lm, LamX.TabB base mg (He.cT K (q, none)).1 (He.cT K (q, none)).2) : Mdl T (CcT T K) P w mg base Φ 15 := by
  obtain ⟨fd, Fd⟩ := c.t.d.def_ 13 (d := dd "dropped" 38) rfl
  have hm : mg "dropped" = some (.ref (He.ga K "dropped")) := glo_at X G c (by decide +kernel)
  exact step_def (ps := ["configuration", "state"]) (N := N14) (k := 1) (fuel := fuel) (b := b14) (m14 X G c tb) rfl Fd hm (fun _ _ _ _ _ _ us hl => match us, hl with | [_, _], _ => rfl) (fun m ks perm z => by have z := kwm z; simp [T] at z) (by decide +kernel) rfl rfl (lam := false) (fun z => absurd z Bool.false_ne_true) c14 rfl
theorem m16 (X : K.In h) (G : h.Ns mainGlobals mg) (c : Says T gl fn w h K) (tb : ∀ q ∈ T.lm, LamX.TabB base mg (He.cT K (q, none)).1 (He.cT K (q, none)).2) : Mdl T (CcT T K) P w mg base Φ 16 := by
  obtain ⟨fd, Fd⟩ := c.t.d.def_ 14 (d := dd "moves" 39) rfl
  have hm : mg "moves" = some (.ref (He.ga K "moves")) := glo_at X G c (by decide +kernel)
  exact step_def (ps := ["protocol", "configuration"]) (N := N15) (k := 4) (fuel := fuel) (b := b15) (m15 X G c tb) rfl Fd hm (fun _ _ _ _ _ _ us hl => match us, hl with | [_, _], _ => rfl) (fun m ks perm z => by have z := kwm z; simp [T] at z) (by decide +kernel) rfl rfl (lam := false) (fun z => absurd z Bool.false_ne_true) c15 rfl
theorem m18 (X : K.In h) (G : h.Ns mainGlobals mg) (c : Says T gl fn w h K) (tb : ∀ q ∈ T.lm, LamX.TabB base mg (He.cT K (q, none)).1 (He.cT K (q, none)).2) : Mdl T (CcT T K) P w mg base Φ 18 := (m16 X G c tb).skips (by decide) (by decide +kernel)
theorem m19 (X : K.In h) (G : h.Ns mainGlobals mg) (c : Says T gl fn w h K) (tb : ∀ q ∈ T.lm, LamX.TabB base mg (He.cT K (q, none)).1 (He.cT K (q, none)).2) : Mdl T (CcT T K) P w mg base Φ 19 := by
  obtain ⟨fd, Fd⟩ := c.t.d.def_ 15 (d := dd "_law_pattern" 50) rfl
  have hm : mg "_law_pattern" = some (.ref (He.ga K "_law_pattern")) := glo_at X G c (by decide +kernel)
  exact step_def (ps := ["script", "town", "many", "most"]) (N := N18) (k := 2) (fuel := fuel) (b := b18) (m18 X G c tb) rfl Fd hm (fun _ _ _ _ _ _ us hl => match us, hl with | [_, _, _, _], _ => rfl) (fun m ks perm z => by have z := kwm z; simp [T] at z) (by decide +kernel) rfl rfl (lam := false) (fun z => absurd z Bool.false_ne_true) c18 rfl
theorem m20 (X : K.In h) (G : h.Ns mainGlobals mg) (c : Says T gl fn w h K) (tb : ∀ q ∈ T.lm, LamX.TabB base mg (He.cT K (q, none)).1 (He.cT K (q, none)).2) : Mdl T (CcT T K) P w mg base Φ 20 := by
  obtain ⟨fd, Fd⟩ := c.t.d.def_ 16 (d := dd "check_protocol" 26) rfl
  have hm : mg "check_protocol" = some (.ref (He.ga K "check_protocol")) := glo_at X G c (by decide +kernel)
  exact step_def (ps := ["protocol"]) (N := N19) (k := 0) (fuel := fuel) (b := b19) (m19 X G c tb) rfl Fd hm (fun _ _ _ _ _ _ us hl => match us, hl with | [_], _ => rfl) (fun m ks perm z => by have z := kwm z; simp [T] at z) (by decide +kernel) rfl rfl (lam := false) (fun z => absurd z Bool.false_ne_true) c19 rfl
theorem m21 (X : K.In h) (G : h.Ns mainGlobals mg) (c : Says T gl fn w h K) (tb : ∀ q ∈ T.lm, LamX.TabB base mg (He.cT K (q, none)).1 (He.cT K (q, none)).2) : Mdl T (CcT T K) P w mg base Φ 21 := by
  obtain ⟨fd, Fd⟩ := c.t.d.def_ 17 (d := dd "is_count" 28) rfl
  have hm : mg "is_count" = some (.ref (He.ga K "is_count")) := glo_at X G c (by decide +kernel)
  exact step_def (ps := ["value"]) (N := N20) (k := 0) (fuel := fuel) (b := b20) (m20 X G c tb) rfl Fd hm (fun _ _ _ _ _ _ us hl => match us, hl with | [_], _ => rfl) (fun m ks perm z => by have z := kwm z; simp [T] at z) (by decide +kernel) rfl rfl (lam := false) (fun z => absurd z Bool.false_ne_true) c20 rfl
theorem m22 (X : K.In h) (G : h.Ns mainGlobals mg) (c : Says T gl fn w h K) (tb : ∀ q ∈ T.lm, LamX.TabB base mg (He.cT K (q, none)).1 (He.cT K (q, none)).2) : Mdl T (CcT T K) P w mg base Φ 22 := by
  obtain ⟨fd, Fd⟩ := c.t.d.def_ 18 (d := dd "are_counts" 27) rfl
  have hm : mg "are_counts" = some (.ref (He.ga K "are_counts")) := glo_at X G c (by decide +kernel)
  exact step_def (ps := ["protocol", "value"]) (N := N21) (k := 1) (fuel := fuel) (b := b21) (m21 X G c tb) rfl Fd hm (fun _ _ _ _ _ _ us hl => match us, hl with | [_, _], _ => rfl) (fun m ks perm z => by have z := kwm z; simp [T] at z) (by decide +kernel) rfl rfl (lam := false) (fun z => absurd z Bool.false_ne_true) c21 rfl
theorem m23 (X : K.In h) (G : h.Ns mainGlobals mg) (c : Says T gl fn w h K) (tb : ∀ q ∈ T.lm, LamX.TabB base mg (He.cT K (q, none)).1 (He.cT K (q, none)).2) : Mdl T (CcT T K) P w mg base Φ 23 := by
  obtain ⟨fd, Fd⟩ := c.t.d.def_ 19 (d := dd "is_configuration_of" 29) rfl
  have hm : mg "is_configuration_of" = some (.ref (He.ga K "is_configuration_of")) := glo_at X G c (by decide +kernel)
  exact step_def (ps := ["protocol", "value"]) (N := N22) (k := 0) (fuel := fuel) (b := b22) (m22 X G c tb) rfl Fd hm (fun _ _ _ _ _ _ us hl => match us, hl with | [_, _], _ => rfl) (fun m ks perm z => by have z := kwm z; simp [T] at z) (by decide +kernel) rfl rfl (lam := false) (fun z => absurd z Bool.false_ne_true) c22 rfl
theorem m24 (X : K.In h) (G : h.Ns mainGlobals mg) (c : Says T gl fn w h K) (tb : ∀ q ∈ T.lm, LamX.TabB base mg (He.cT K (q, none)).1 (He.cT K (q, none)).2) : Mdl T (CcT T K) P w mg base Φ 24 := by
  obtain ⟨fd, Fd⟩ := c.t.d.def_ 20 (d := dd "is_configuration" 30) rfl
  have hm : mg "is_configuration" = some (.ref (He.ga K "is_configuration")) := glo_at X G c (by decide +kernel)
  exact step_def (ps := ["protocol", "value"]) (N := N23) (k := 0) (fuel := fuel) (b := b23) (m23 X G c tb) rfl Fd hm (fun _ _ _ _ _ _ us hl => match us, hl with | [_, _], _ => rfl) (fun m ks perm z => by have z := kwm z; simp [T] at z) (by decide +kernel) rfl rfl (lam := false) (fun z => absurd z Bool.false_ne_true) c23 rfl
theorem m28 (X : K.In h) (G : h.Ns mainGlobals mg) (c : Says T gl fn w h K) (tb : ∀ q ∈ T.lm, LamX.TabB base mg (He.cT K (q, none)).1 (He.cT K (q, none)).2) : Mdl T (CcT T K) P w mg base Φ 28 := (m24 X G c tb).skips (by decide) (by decide +kernel)
theorem m29 (X : K.In h) (G : h.Ns mainGlobals mg) (c : Says T gl fn w h K) (tb : ∀ q ∈ T.lm, LamX.TabB base mg (He.cT K (q, none)).1 (He.cT K (q, none)).2) : Mdl T (CcT T K) P w mg base Φ 29 := by
  obtain ⟨fd, Fd⟩ := c.t.d.def_ 21 (d := dd "check_configuration" 31) rfl
  have hm : mg "check_configuration" = some (.ref (He.ga K "check_configuration")) := glo_at X G c (by decide +kernel)
  exact step_def (ps := ["protocol", "configuration"]) (N := N28) (k := 0) (fuel := fuel) (b := b28) (m28 X G c tb) rfl Fd hm (fun _ _ _ _ _ _ us hl => match us, hl with | [_, _], _ => rfl) (fun m ks perm z => by have z := kwm z; simp [T] at z) (by decide +kernel) rfl rfl (lam := false) (fun z => absurd z Bool.false_ne_true) c28 rfl
theorem m30 (X : K.In h) (G : h.Ns mainGlobals mg) (c : Says T gl fn w h K) (tb : ∀ q ∈ T.lm, LamX.TabB base mg (He.cT K (q, none)).1 (He.cT K (q, none)).2) : Mdl T (CcT T K) P w mg base Φ 30 := by
  obtain ⟨fd, Fd⟩ := c.t.d.def_ 22 (d := dd "check_number" 32) rfl
  have hm : mg "check_number" = some (.ref (He.ga K "check_number")) := glo_at X G c (by decide +kernel)
  exact step_def (ps := ["caches"]) (N := N29) (k := 0) (fuel := fuel) (b := b29) (m29 X G c tb) rfl Fd hm (fun _ _ _ _ _ _ us hl => match us, hl with | [_], _ => rfl) (fun m ks perm z => by have z := kwm z; simp [T] at z) (by decide +kernel) rfl rfl (lam := false) (fun z => absurd z Bool.false_ne_true) c29 rfl
theorem m31 (X : K.In h) (G : h.Ns mainGlobals mg) (c : Says T gl fn w h K) (tb : ∀ q ∈ T.lm, LamX.TabB base mg (He.cT K (q, none)).1 (He.cT K (q, none)).2) : Mdl T (CcT T K) P w mg base Φ 31 := by
  obtain ⟨fd, Fd⟩ := c.t.d.def_ 23 (d := dd "initial" 34) rfl
  have hm : mg "initial" = some (.ref (He.ga K "initial")) := glo_at X G c (by decide +kernel)
  exact step_def (ps := ["protocol", "caches"]) (N := N30) (k := 0) (fuel := fuel) (b := b30) (m30 X G c tb) rfl Fd hm (fun _ _ _ _ _ _ us hl => match us, hl with | [_, _], _ => rfl) (fun m ks perm z => by
    have z := kwm z
    simp [T] at z
    obtain ⟨rfl, rfl, rfl⟩ := z
    exact fun _ _ _ _ _ _ us ws h1 h2 => match us, ws, h1, h2 with | [_], [_], _, _ => rfl) (by decide +kernel) rfl rfl (lam := false) (fun z => absurd z Bool.false_ne_true) c30 rfl
theorem m32 (X : K.In h) (G : h.Ns mainGlobals mg) (c : Says T gl fn w h K) (tb : ∀ q ∈ T.lm, LamX.TabB base mg (He.cT K (q, none)).1 (He.cT K (q, none)).2) : Mdl T (CcT T K) P w mg base Φ 32 := by
  obtain ⟨fd, Fd⟩ := c.t.d.def_ 24 (d := dd "steps" 40) rfl
  have hm : mg "steps" = some (.ref (He.ga K "steps")) := glo_at X G c (by decide +kernel)
  exact step_def (ps := ["protocol", "configuration"]) (N := N31) (k := 2) (fuel := fuel) (b := b31) (m31 X G c tb) rfl Fd hm (fun _ _ _ _ _ _ us hl => match us, hl with | [_, _], _ => rfl) (fun m ks perm z => by
    have z := kwm z
    simp [T] at z
    obtain ⟨rfl, rfl, rfl⟩ := z
    exact fun _ _ _ _ _ _ us ws h1 h2 => match us, ws, h1, h2 with | [_], [_], _, _ => rfl) (by decide +kernel) rfl rfl (lam := false) (fun z => absurd z Bool.false_ne_true) c31 rfl
theorem m33 (X : K.In h) (G : h.Ns mainGlobals mg) (c : Says T gl fn w h K) (tb : ∀ q ∈ T.lm, LamX.TabB base mg (He.cT K (q, none)).1 (He.cT K (q, none)).2) : Mdl T (CcT T K) P w mg base Φ 33 := by
  obtain ⟨fd, Fd⟩ := c.t.d.def_ 25 (d := dd "is_step_shape" 41) rfl
  have hm : mg "is_step_shape" = some (.ref (He.ga K "is_step_shape")) := glo_at X G c (by decide +kernel)
  exact step_def (ps := ["value"]) (N := N32) (k := 0) (fuel := fuel) (b := b32) (m32 X G c tb) rfl Fd hm (fun _ _ _ _ _ _ us hl => match us, hl with | [_], _ => rfl) (fun m ks perm z => by have z := kwm z; simp [T] at z) (by decide +kernel) rfl rfl (lam := false) (fun z => absurd z Bool.false_ne_true) c32 rfl
theorem m34 (X : K.In h) (G : h.Ns mainGlobals mg) (c : Says T gl fn w h K) (tb : ∀ q ∈ T.lm, LamX.TabB base mg (He.cT K (q, none)).1 (He.cT K (q, none)).2) : Mdl T (CcT T K) P w mg base Φ 34 := by
  obtain ⟨fd, Fd⟩ := c.t.d.def_ 26 (d := dd "moved" 42) rfl
  have hm : mg "moved" = some (.ref (He.ga K "moved")) := glo_at X G c (by decide +kernel)
  exact step_def (ps := ["protocol", "configuration", "step"]) (N := N33) (k := 0) (fuel := fuel) (b := b33) (m33 X G c tb) rfl Fd hm (fun _ _ _ _ _ _ us hl => match us, hl with | [_, _, _], _ => rfl) (fun m ks perm z => by have z := kwm z; simp [T] at z) (by decide +kernel) rfl rfl (lam := false) (fun z => absurd z Bool.false_ne_true) c33 rfl
theorem m35 (X : K.In h) (G : h.Ns mainGlobals mg) (c : Says T gl fn w h K) (tb : ∀ q ∈ T.lm, LamX.TabB base mg (He.cT K (q, none)).1 (He.cT K (q, none)).2) : Mdl T (CcT T K) P w mg base Φ 35 := by
  obtain ⟨fd, Fd⟩ := c.t.d.def_ 27 (d := dd "after" 43) rfl
  have hm : mg "after" = some (.ref (He.ga K "after")) := glo_at X G c (by decide +kernel)
  exact step_def (ps := ["protocol", "configuration", "step"]) (N := N34) (k := 1) (fuel := fuel) (b := b34) (m34 X G c tb) rfl Fd hm (fun _ _ _ _ _ _ us hl => match us, hl with | [_, _, _], _ => rfl) (fun m ks perm z => by
    have z := kwm z
    simp [T] at z
    obtain ⟨rfl, rfl, rfl⟩ := z
    exact fun _ _ _ _ _ _ us ws h1 h2 => match us, ws, h1, h2 with | [_], [_, _], _, _ => rfl) (by decide +kernel) rfl rfl (lam := false) (fun z => absurd z Bool.false_ne_true) c34 rfl
theorem m99 (X : K.In h) (G : h.Ns mainGlobals mg) (c : Says T gl fn w h K) (tb : ∀ q ∈ T.lm, LamX.TabB base mg (He.cT K (q, none)).1 (He.cT K (q, none)).2) : Mdl T (CcT T K) P w mg base Φ 99 := (m35 X G c tb).skips (by decide) (by decide +kernel)
theorem m100 (X : K.In h) (G : h.Ns mainGlobals mg) (c : Says T gl fn w h K) (tb : ∀ q ∈ T.lm, LamX.TabB base mg (He.cT K (q, none)).1 (He.cT K (q, none)).2) : Mdl T (CcT T K) P w mg base Φ 100 := by
  obtain ⟨fd, Fd⟩ := c.t.d.def_ 28 (d := dd "_law_moves" 51) rfl
  have hm : mg "_law_moves" = some (.ref (He.ga K "_law_moves")) := glo_at X G c (by decide +kernel)
  exact step_def (ps := ["protocol", "configuration_here"]) (N := N99) (k := 12) (fuel := fuel) (b := b99) (m99 X G c tb) rfl Fd hm (fun _ _ _ _ _ _ us hl => match us, hl with | [_, _], _ => rfl) (fun m ks perm z => by have z := kwm z; simp [T] at z) (by decide +kernel) rfl rfl (lam := false) (fun z => absurd z Bool.false_ne_true) c99 rfl
theorem m140 (X : K.In h) (G : h.Ns mainGlobals mg) (c : Says T gl fn w h K) (tb : ∀ q ∈ T.lm, LamX.TabB base mg (He.cT K (q, none)).1 (He.cT K (q, none)).2) : Mdl T (CcT T K) P w mg base Φ 140 := (m100 X G c tb).skips (by decide) (by decide +kernel)
theorem m141 (X : K.In h) (G : h.Ns mainGlobals mg) (c : Says T gl fn w h K) (tb : ∀ q ∈ T.lm, LamX.TabB base mg (He.cT K (q, none)).1 (He.cT K (q, none)).2) : Mdl T (CcT T K) P w mg base Φ 141 := by
  obtain ⟨fd, Fd⟩ := c.t.d.def_ 29 (d := dd "_law_errors" 52) rfl
  have hm : mg "_law_errors" = some (.ref (He.ga K "_law_errors")) := glo_at X G c (by decide +kernel)
  exact step_def (ps := ["script", "town", "protocol_here", "configuration_here"]) (N := N140) (k := 3) (fuel := fuel) (b := b140) (m140 X G c tb) rfl Fd hm (fun _ _ _ _ _ _ us hl => match us, hl with | [_, _, _, _], _ => rfl) (fun m ks perm z => by have z := kwm z; simp [T] at z) (by decide +kernel) rfl rfl (lam := true) (fun _ => by decide +kernel) c140 rfl
theorem m142 (X : K.In h) (G : h.Ns mainGlobals mg) (c : Says T gl fn w h K) (tb : ∀ q ∈ T.lm, LamX.TabB base mg (He.cT K (q, none)).1 (He.cT K (q, none)).2) : Mdl T (CcT T K) P w mg base Φ 142 := by
  obtain ⟨fd, Fd⟩ := c.t.d.def_ 30 (d := dd "law" 53) rfl
  have hm : mg "law" = some (.ref (He.ga K "law")) := glo_at X G c (by decide +kernel)
  exact step_def (ps := ["script"]) (N := N141) (k := 12) (fuel := fuel) (b := b141) (m141 X G c tb) rfl Fd hm (fun _ _ _ _ _ _ us hl => match us, hl with | [_], _ => rfl) (fun m ks perm z => by have z := kwm z; simp [T] at z) (by decide +kernel) rfl rfl (lam := true) (fun _ => by decide +kernel) c141 rfl
theorem facts {fa : Addr} (X : K.In h) (G : h.Ns mainGlobals mg) (hfa : mg ("law" : Str) = some (.ref fa)) (c : Says T gl fn w h K) :
    ∃ fd : FuncData, (∀ (s : Shared) (v : Value), BindsTo s fd ⟨[v], []⟩ [("script", v)]) ∧ ∀ base : Heap, K.In base → base.Ns mainGlobals mg → (∀ q ∈ T.lm, LamX.TabB base mg (He.cT K (q, none)).1 (He.cT K (q, none)).2) → FnOk P w K mg base (L2.CX P w) 142 fa fd ["script"] (spS (CcT T K) (Φ 141)) := by
  obtain ⟨fd, Fd⟩ := c.t.d.def_ 30 (d := dd "law" 53) rfl
  have hm : mg "law" = some (.ref (He.ga K "law")) := glo_at X G c (by decide +kernel)
  have e := hfa.symm.trans hm
  cases e
  have b : ∀ (s : Shared) (v : Value), BindsTo s fd ⟨[v], []⟩ [("script", v)] := by
    obtain ⟨oc, od, dV, kV, doc, pm, an, cdv, ct, osl, rfl, lk, hcd, hD, hK⟩ := Fd.ex
    rcases hD with ⟨_, rfl⟩ | ⟨z, _⟩
    · exact fun s v => .of_eq rfl
    · exact absurd rfl z
  refine ⟨fd, b, fun base h1 h2 tb => ?_⟩
  exact def_okS (C := CcT T K) (k := 12) (m141 X G c tb).upto Fd (scope_by (N := N141) (by decide +kernel)) (lam := true) (fun _ => by decide +kernel) rfl (fun X W H0 ρ0 Gd => sndSs (fuel := fuel) b141 _ Gd c141) fun a => rfl
end
end K02
open PySem PySem.W PySem.Calls PyProof.Rows
theorem PySem.Challenge.cw_manycaches_k02_steps_holds : PySem.Challenge.rw_manycaches_k02_steps.Holds := by
  w_on; o_law
  refine HandSHeadRun.head_any (r := OpenLaw.row PySem.Challenge.rw_manycaches_k02_steps) (q := view (OpenLaw.row PySem.Challenge.rw_manycaches_k02_steps).prog [53]) (H := K02.hk) (ob := K02.ob) (M := 6000) (loose := K02.nms) (d := HandSHeadRun.topDef (OpenLaw.row PySem.Challenge.rw_manycaches_k02_steps).prog 53) (kwd := []) K02.ob_eq
    (by kernel_rfl) (fun s => by kernel_rfl) K02.run (by kernel_rfl) (by kernel_rfl) (by kernel_rfl) (by rfl) (by first | assumption | decide +kernel) (by decide +kernel) ⟨rfl, rfl, rfl, rfl, rfl, by decide +kernel⟩ ?hw ?hc
  case hw => w_witness2
  case hc =>
    refine LamX.walk_ofTsE (l := PySem.Challenge.rw_manycaches_k02_steps) (n := 63) (k := 142) (x := "script") (CX := fun w => L2.CX (PySem.Challenge.rw_manycaches_k02_steps).prog w) rfl (by decide) (by kernel_rfl) ⟨rfl, by decide, by decide⟩ ?F (fun _ _ _ _ _ z => by obtain ⟨_, _, _, _, _, _, _, _, _, _, _, _, z⟩ := z; exact z)
    intro w mg fa h Y G hmg0
    obtain ⟨K, KX, c⟩ := Y
    have hmg : mg ("law" : PySem.Str) = some (.ref fa) := by
      have e : (HandSHeadRun.topDef (OpenLaw.row PySem.Challenge.rw_manycaches_k02_steps).prog 53).name = ("law" : PySem.Str) := by kernel_rfl
      rw [← e]
      exact hmg0
    obtain ⟨fd, hb, hF⟩ := K02.facts (P := (PySem.Challenge.rw_manycaches_k02_steps).prog) (w := w) KX G hmg c
    exact ⟨K, KX, MC.law_end KX c hb (fun ns hl => K02.law_true hl) hF⟩
