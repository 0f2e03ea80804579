import PyProof.Rows.All
import Wide.All
import OpenK.AllK
import Wide.FinOn
import HandS.ForMost
import HandS.ForExc
import HandS.Zip
import HandS.TupAny
import HandS.TupMul
import HandS.IsInst
import HandS.Walk
import HandS.Flow
import HandS.Deep
import HandS.Defaults
import HandS.WordsExc
import HandS.More
import HandS.Head0
import HandS.Head1
import HandS.Head2
import HandS.HeadEnd
import HandS.HeadHook1
import HandS.HeadHook2
import HandS.Lambda
import HandS.EndTab
import HandS.ExcIs
import HandS.TupLe
import PyProof.ListMulRoad
import PyProof.FactsAll.tuple_2
import KE.KTupSum
import KE.GoesMore
import PyProof.EnumMake
import HandS.Small
import PySem.Challenge.RW_manycaches_k01_not_protocols
import KE.KStateDown
import Lean
set_option Elab.async false
set_option linter.all false
set_option maxRecDepth 100000
set_option maxHeartbeats 4000000
namespace MC
open PySem PySem.Spec L2

/-! ### values -/
inductive D where
  | non | bl (b : Bool) | int (i : Int) | str (x : Str)
  | tup (l : List D) | lst (l : List D) | dct (ks vs : List D) | ins (c : Str) (fs : List Str) (vs : List D)
  | fn (f : Nat) | obj (n : Nat) | scr (l : List Int)
  deriving Inhabited
/-- what a slot holds: nothing known, a value for good, a list or a dict that this frame alone may change -/
inductive Sl where
  | un | imm (d : D) | ml (l : List D) | md (ks vs : List D)
  deriving Inhabited
inductive R (α : Type) where
  | ok (a : α) | ex (c : Str)
/-- objects that are handed around and changed -/
inductive GO where
  | town (c : Int) (r : List (Int × Int))
abbrev G := List GO
abbrev M (α : Type) := G → Option (R α × G)
def M.pure {α : Type} (a : α) : M α := fun g => some (.ok a, g)
def M.fail {α : Type} : M α := fun _ => none
def M.exc {α : Type} (c : Str) : M α := fun g => some (.ex c, g)
def M.bind {α β : Type} (m : M α) (f : α → M β) : M β := fun g => match m g with
  | none => none
  | some (.ex c, g') => some (.ex c, g')
  | some (.ok a, g') => f a g'
def M.opt {α : Type} : Option α → M α
  | some a => M.pure a
  | none => M.fail
@[simp] theorem M.pure_bind {α β : Type} (a : α) (f : α → M β) : M.bind (M.pure a) f = f a := rfl
@[simp] theorem M.fail_bind {α β : Type} (f : α → M β) : M.bind (M.fail : M α) f = M.fail := rfl
@[simp] theorem M.exc_bind {α β : Type} (c : Str) (f : α → M β) : M.bind (M.exc c : M α) f = M.exc c := rfl
@[simp] theorem M.opt_some {α : Type} (a : α) : M.opt (some a) = M.pure a := rfl
@[simp] theorem M.opt_none {α : Type} : M.opt (none : Option α) = M.fail := rfl
theorem M.bind_assoc {α β γ : Type} (m : M α) (f : α → M β) (k : β → M γ) : M.bind (M.bind m f) k = M.bind m fun a => M.bind (f a) k := by
  funext g
  unfold M.bind
  cases m g with
  | none => rfl
  | some p =>
    obtain ⟨r, g'⟩ := p
    cases r <;> rfl
theorem M.bind_pure {α : Type} (m : M α) : M.bind m M.pure = m := by
  funext g
  unfold M.bind M.pure
  cases m g with
  | none => rfl
  | some p =>
    obtain ⟨r, g'⟩ := p
    cases r <;> rfl

/-! ### syntax -/
inductive Op2 where
  | add | sub | mul | fdiv | mod | pow
  | eq | ne | lt | le | gt | ge | mem | nmem | isN | notN | isB
  deriving DecidableEq
inductive Ty where
  | int | bool | tuple | str
  deriving DecidableEq
inductive Pr where
  | len | all | any | sum | max | min | sorted | tuple | list
  deriving DecidableEq
inductive Tg where
  | n (i : Nat) | t (l : List Tg)
mutual
inductive E where
  | var (i : Nat)
  | cst (d : D)
  | con (x : Str) (i : Int)
  | tup (es : List E) | lst (es : List E)
  | op (o : Op2) (a b : E)
  | chn (o o' : Op2) (a b c : E)
  | and (es : List E) | or (es : List E)
  | not (e : E)
  | neg (e : E)
  | ife (c a b : E)
  | idx (a b : E)
  | slc (a : E) (lo hi : Option E)
  | call (f : Nat) (es : List E)
  | callk (f : Nat) (es : List E) (ks : List (Str × E)) (perm : List Nat)
  | prim (p : Pr) (es : List E)
  | isi (e : E) (t : Ty)
  | comp (elt : E) (tg : Tg) (own : List Nat) (it : It) (cs : List E)
  | len_ (i : Nat)
  | at_ (i : Nat) (e : E)
inductive It where
  | e (e : E) | rng (es : List E) | enum (e : E) | zip (a b : E)
end
inductive S where
  | asg (tg : Tg) (e : E)
  | par (is : List Nat) (es : List E)
  | new (i : Nat) (e : E)
  | fz (i : Nat)
  | clr (is : List Nat)
  | setix (i : Nat) (k v : E)
  | augix (i : Nat) (o : Op2) (k v : E)
  | aug (i : Nat) (o : Op2) (e : E)
  | app (i : Nat) (e : E) | ext (i : Nat) (e : E)
  | ife (c : E) (a b : List S)
  | forr (tg : Tg) (it : It) (b : List S) (tmp : List Nat)
  | whil (c : E) (b : List S)
  | ret (e : E)
  | exp (e : E)
  | raise (c : Str)
  | brk | cnt
inductive Flow' where
  | next (σ : List Sl) | ret (d : D) | brk (σ : List Sl) | cnt (σ : List Sl)
end MC
namespace MC
open PySem PySem.Spec L2

/-! ### how a value lies in the heap -/
/-- a list that nothing changes any more -/
def FzL (H : Hp) (a : Addr) (vs : List V) : Prop := ∃ o, H a = some (.frz o (.lst vs))
theorem FzL.sq {K : PySem.W.Frag} {H : Hp} {a : Addr} {vs : List V} (h : FzL H a vs) : SqL K H a vs := by
  obtain ⟨o, h⟩ := h
  exact .inl (.inr ⟨o, h⟩)
/-- where the changing objects stand -/
abbrev Rho := List (Addr × Addr)
/-- the names of defs -/
structure Cn where
  K : PySem.W.Frag
  nm : Nat → Str
/-- the script: told by the law's entry -/
def ScrAt (K : PySem.W.Frag) (H : Hp) (a : Addr) (ns : List Int) : Prop := (∃ o, H a = some (.frz o (.lst (ns.map V.int)))) ∨
  ∃ (o : Obj) (its : Array Value) (n : Nat), K.lookup a = some o ∧ o.cls = .type "list" ∧ o.dict = none ∧ o.data = .seq its n ∧ its.size ≤ sizeLine ∧ Vals (ns.map V.int) its.toList
theorem ScrAt.sq {K : PySem.W.Frag} {H : Hp} {a : Addr} {ns : List Int} (h : ScrAt K H a ns) : SqL K H a (ns.map V.int) := by
  rcases h with ⟨o, h⟩ | h
  · exact .inl (.inr ⟨o, h⟩)
  · exact .inr h
mutual
def Rep (C : Cn) (ρ : Rho) (H : Hp) : D → V → Prop
  | .non, v => v = .non
  | .bl b, v => v = .bl b
  | .int i, v => v = .int i
  | .str x, v => v = .str x
  | .tup l, v => ∃ a vs, v = .ref a ∧ SqT C.K H a vs ∧ Reps C ρ H l vs
  | .lst l, v => ∃ a vs, v = .ref a ∧ FzL H a vs ∧ Reps C ρ H l vs
  | .dct _ _, _ => False
  | .ins _ _ _, _ => False
  | .fn f, v => v = .ref (He.ga C.K (C.nm f))
  | .obj n, v => ∃ p, ρ[n]? = some p ∧ v = .ref p.1
  | .scr ns, v => ∃ a, v = .ref a ∧ ScrAt C.K H a ns
def Reps (C : Cn) (ρ : Rho) (H : Hp) : List D → List V → Prop
  | [], vs => vs = []
  | d :: l, vs => ∃ v r, vs = v :: r ∧ Rep C ρ H d v ∧ Reps C ρ H l r
end
/-- nothing that was tracked is changed -/
def Grow (H H' : Hp) : Prop := ∀ b u, H b = some u → H' b = some u
theorem Grow.refl (H : Hp) : Grow H H := fun _ _ h => h
theorem Grow.trans {H H1 H2 : Hp} (a : Grow H H1) (b : Grow H1 H2) : Grow H H2 := fun c u h => b c u (a c u h)
theorem Grow.upd {H : Hp} {p : Addr} {o : HO} (h : H p = none) : Grow H (upd H p o) := fun b u e => by
  rw [upd_ne (ne_of_none e h)]
  exact e
/-- all but the changing objects and the tables of code stay -/
def inRho (ρ : Rho) (b : Addr) : Prop := ∃ p ∈ ρ, b = p.1 ∨ b = p.2
def isTbl : HO → Prop
  | .tbl _ => True
  | _ => False
structure Ext (ρ : Rho) (H H' : Hp) : Prop where
  at_ : ∀ b u, H b = some u → ¬ inRho ρ b → ¬ isTbl u → H' b = some u
  tbl : ∀ b u, H b = some u → ¬ inRho ρ b → isTbl u → ∃ u', H' b = some u' ∧ isTbl u'
theorem Ext.refl (ρ : Rho) (H : Hp) : Ext ρ H H := ⟨fun _ _ h _ _ => h, fun _ u h _ t => ⟨u, h, t⟩⟩
theorem Ext.of (ρ : Rho) {H H' : Hp} (h : Grow H H') : Ext ρ H H' := ⟨fun b u e _ _ => h b u e, fun b u e _ t => ⟨u, h b u e, t⟩⟩
theorem inRho.mono {ρ ρ' : Rho} (h : ρ <+: ρ') {b : Addr} (x : inRho ρ b) : inRho ρ' b := by
  obtain ⟨p, hp, e⟩ := x
  exact ⟨p, h.subset hp, e⟩
/-- changing objects are dicts that H tracks -/
def RhoOk (ρ : Rho) (H : Hp) : Prop := ∀ b, inRho ρ b → ∃ kvs, H b = some (.dK kvs)
theorem tup_not {ρ : Rho} {H : Hp} (ok : RhoOk ρ H) {b : Addr} {u : HO} (h : H b = some u) (n : ∀ kvs, u ≠ .dK kvs) : ¬ inRho ρ b := fun x => by
  obtain ⟨kvs, e⟩ := ok b x
  rw [h] at e
  exact n kvs (Option.some.inj e)
section
variable {C : Cn} {ρ ρ' : Rho} {H H' : Hp}
/-- what a value leans on -/
structure Keeps (K : PySem.W.Frag) (H H' : Hp) : Prop where
  tup : ∀ a vs, SqT K H a vs → SqT K H' a vs
  lst : ∀ a vs, FzL H a vs → FzL H' a vs
  scr : ∀ a ns, ScrAt K H a ns → ScrAt K H' a ns
theorem SqT.to {K : PySem.W.Frag} {H H' : Hp} (k1 : ∀ a xs, H a = some (.tup xs) → H' a = some (.tup xs)) (k2 : ∀ a o u, H a = some (.frz o u) → H' a = some (.frz o u)) {a : Addr} {vs : List V} (h : SqT K H a vs) : SqT K H' a vs := by
  rcases h with h | h
  · rcases h with h | ⟨o, h⟩
    · exact .inl (.inl (k1 _ _ h))
    · exact .inl (.inr ⟨o, k2 _ _ _ h⟩)
  · exact .inr h
theorem Keeps.mk' {K : PySem.W.Frag} (k1 : ∀ a xs, H a = some (.tup xs) → H' a = some (.tup xs)) (k2 : ∀ a o u, H a = some (.frz o u) → H' a = some (.frz o u)) : Keeps K H H' :=
  ⟨fun _ _ h => SqT.to k1 k2 h, fun a vs ⟨o, h⟩ => ⟨o, k2 _ _ _ h⟩, fun a ns h => by
    rcases h with ⟨o, h⟩ | h
    · exact .inl ⟨o, k2 _ _ _ h⟩
    · exact .inr h⟩
theorem Grow.keeps {K : PySem.W.Frag} (h : Grow H H') : Keeps K H H' := Keeps.mk' (fun _ _ e => h _ _ e) fun _ _ _ e => h _ _ e
theorem Ext.keeps {K : PySem.W.Frag} (ok : RhoOk ρ H) (h : Ext ρ H H') : Keeps K H H' :=
  Keeps.mk' (fun a xs e => h.at_ a _ e (tup_not ok e (fun _ z => nomatch z)) (fun z => z)) fun a o u e => h.at_ a _ e (tup_not ok e (fun _ z => nomatch z)) (fun z => z)
theorem get_pre {ρ ρ' : Rho} (h : ρ <+: ρ') {n : Nat} {p : Addr × Addr} (e : ρ[n]? = some p) : ρ'[n]? = some p := by
  obtain ⟨t, rfl⟩ := h
  rw [List.getElem?_append_left (List.getElem?_eq_some_iff.mp e).1]
  exact e
mutual
theorem Rep.to (k : Keeps C.K H H') (pre : ρ <+: ρ') : ∀ {d : D} {v : V}, Rep C ρ H d v → Rep C ρ' H' d v
  | .non, _, h => h
  | .bl _, _, h => h
  | .int _, _, h => h
  | .str _, _, h => h
  | .tup l, v, h => by
    obtain ⟨a, vs, e, q, r⟩ := h
    exact ⟨a, vs, e, k.tup _ _ q, Reps.to k pre r⟩
  | .lst l, v, h => by
    obtain ⟨a, vs, e, q, r⟩ := h
    exact ⟨a, vs, e, k.lst _ _ q, Reps.to k pre r⟩
  | .dct _ _, _, h => h
  | .ins _ _ _, _, h => h
  | .fn _, _, h => h
  | .obj n, v, h => by
    obtain ⟨p, e, q⟩ := h
    exact ⟨p, get_pre pre e, q⟩
  | .scr ns, v, h => by
    obtain ⟨a, e, q⟩ := h
    exact ⟨a, e, k.scr _ _ q⟩
theorem Reps.to (k : Keeps C.K H H') (pre : ρ <+: ρ') : ∀ {l : List D} {vs : List V}, Reps C ρ H l vs → Reps C ρ' H' l vs
  | [], _, h => h
  | d :: l, vs, h => by
    obtain ⟨v, r, e, h1, h2⟩ := h
    exact ⟨v, r, e, Rep.to k pre h1, Reps.to k pre h2⟩
end
theorem Rep.grow (g : Grow H H') {d : D} {v : V} (h : Rep C ρ H d v) : Rep C ρ H' d v := h.to g.keeps (List.prefix_refl _)
theorem Reps.grow (g : Grow H H') {l : List D} {v : List V} (h : Reps C ρ H l v) : Reps C ρ H' l v := h.to g.keeps (List.prefix_refl _)
theorem Reps.len : ∀ {l : List D} {vs : List V}, Reps C ρ H l vs → vs.length = l.length
  | [], vs, h => by
    rw [show vs = [] from h]
    rfl
  | d :: l, vs, h => by
    obtain ⟨v, r, e, _, h2⟩ := h
    rw [e, List.length_cons, List.length_cons, Reps.len h2]
theorem Reps.get : ∀ {l : List D} {vs : List V} {i : Nat} {d : D}, Reps C ρ H l vs → l[i]? = some d → ∃ v, vs[i]? = some v ∧ Rep C ρ H d v
  | [], _, i, d, _, e => by simp at e
  | x :: l, vs, 0, d, h, e => by
    obtain ⟨v, r, rfl, h1, _⟩ := h
    simp at e
    subst e
    exact ⟨v, rfl, h1⟩
  | x :: l, vs, i + 1, d, h, e => by
    obtain ⟨v, r, rfl, _, h2⟩ := h
    obtain ⟨w, e1, e2⟩ := Reps.get h2 (show l[i]? = some d by simpa using e)
    exact ⟨w, by simpa using e1, e2⟩
theorem Reps.get' : ∀ {l : List D} {vs : List V} {i : Nat} {v : V}, Reps C ρ H l vs → vs[i]? = some v → ∃ d, l[i]? = some d ∧ Rep C ρ H d v := fun {l vs i v} h e => by
  have hl := h.len
  have hi : i < l.length := by
    have := (List.getElem?_eq_some_iff.mp e).1
    omega
  obtain ⟨w, e1, e2⟩ := h.get (List.getElem?_eq_getElem hi)
  rw [e] at e1
  cases e1
  exact ⟨l[i], List.getElem?_eq_getElem hi, e2⟩
theorem Reps.append : ∀ {l m : List D} {vs ws : List V}, Reps C ρ H l vs → Reps C ρ H m ws → Reps C ρ H (l ++ m) (vs ++ ws)
  | [], m, vs, ws, h, q => by
    rw [show vs = [] from h]
    exact q
  | d :: l, m, vs, ws, h, q => by
    obtain ⟨v, r, rfl, h1, h2⟩ := h
    exact ⟨v, r ++ ws, rfl, h1, Reps.append h2 q⟩
theorem Reps.take : ∀ (n : Nat) {l : List D} {vs : List V}, Reps C ρ H l vs → Reps C ρ H (l.take n) (vs.take n)
  | 0, _, _, _ => by simp [Reps]
  | n + 1, [], vs, h => by
    rw [show vs = [] from h]
    simp [Reps]
  | n + 1, d :: l, vs, h => by
    obtain ⟨v, r, rfl, h1, h2⟩ := h
    exact ⟨v, r.take n, rfl, h1, Reps.take n h2⟩
theorem Reps.drop : ∀ (n : Nat) {l : List D} {vs : List V}, Reps C ρ H l vs → Reps C ρ H (l.drop n) (vs.drop n)
  | 0, _, _, h => h
  | n + 1, [], vs, h => by
    rw [show vs = [] from h]
    simp [Reps]
  | n + 1, d :: l, vs, h => by
    obtain ⟨v, r, rfl, h1, h2⟩ := h
    exact Reps.drop n h2
theorem Reps.one {d : D} {v : V} (h : Rep C ρ H d v) : Reps C ρ H [d] [v] := ⟨v, [], rfl, h, rfl⟩
theorem Reps.set {d : D} {v : V} (h : Rep C ρ H d v) : ∀ {l : List D} {vs : List V} (i : Nat), Reps C ρ H l vs → Reps C ρ H (l.set i d) (vs.set i v)
  | [], vs, i, q => by
    rw [show vs = [] from q]
    simp [Reps]
  | x :: l, vs, 0, q => by
    obtain ⟨w, r, rfl, _, h2⟩ := q
    exact ⟨v, r, rfl, h, h2⟩
  | x :: l, vs, i + 1, q => by
    obtain ⟨w, r, rfl, h1, h2⟩ := q
    exact ⟨w, r.set i v, rfl, h1, Reps.set h i h2⟩
theorem Reps.flat : ∀ {l : List D} {vs : List V} (n : Nat), Reps C ρ H l vs → Reps C ρ H (List.replicate n l).flatten (List.replicate n vs).flatten
  | l, vs, 0, h => by simp [Reps]
  | l, vs, n + 1, h => by
    rw [List.replicate_succ, List.replicate_succ, List.flatten_cons, List.flatten_cons]
    exact h.append (Reps.flat n h)
theorem Reps.snoc {l : List D} {vs : List V} {d : D} {v : V} (h : Reps C ρ H l vs) (q : Rep C ρ H d v) : Reps C ρ H (l ++ [d]) (vs ++ [v]) := h.append (.one q)
end

/-! ### freezing -/
theorem inv_frz {X : Cx} {pins : List (Addr × Obj)} {σ : St} {H : Hp} {s : Shared} {p : Addr} {xs : List V} (I : Inv X pins σ H s) (h : H p = some (.lst xs)) : ∃ o, Inv X pins σ (upd H p (.frz o (.lst xs))) s := by
  obtain ⟨hz, its, n, r, e⟩ := (show ObjOk X.prog X.w H s.heap p (.lst xs) from I.hok p _ h)
  refine ⟨_, I.write (x := p) (e := p) (h' := s.heap) (t' := s.toks) (o := .frz { cls := .type "list", data := .seq its.toArray n } (.lst xs)) (by rw [h]; trivial) (.inl rfl) (fun b u _ q => q) ⟨_, e⟩ ⟨e, hz, its, n, r, e⟩⟩
/-- a new list at v, taken for good -/
def FzTo (v : V) (H : Hp) (Q : VK) : Prop := ∃ p xs, v = .ref p ∧ H p = some (.lst xs) ∧ ∀ o, Q v (upd H p (.frz o (.lst xs)))
theorem EP.frz {X : Cx} {pins : List (Addr × Obj)} {σ : St} {Q : VK} {u : Value} {s : Shared} (h : EP X pins σ (fun v H => FzTo v H Q) u s) : EP X pins σ Q u s := by
  obtain ⟨v, H', I, r, p, xs, rfl, hp, q⟩ := h
  obtain ⟨o, I'⟩ := inv_frz I hp
  exact ⟨_, _, I', r, q o⟩
theorem PE.frz {X : Cx} {e : Expr} {t : TE} (h : PE X e t) : PE X e (fun σ H Q => t σ H fun v H1 => FzTo v H1 Q) :=
  ⟨fun pins s σ H Q I hw => thn (h.run pins s σ H _ I hw) fun _ _ q => EP.frz q⟩
theorem PE.imp {X : Cx} {e : Expr} {t t' : TE} (h : PE X e t) (k : ∀ σ H Q, t' σ H Q → t σ H Q) : PE X e t' := ⟨fun pins s σ H Q I hw => h.run pins s σ H Q I (k _ _ _ hw)⟩
theorem PT.imp {X : Cx} {e : Expr} {t t' : TT} (h : PT X e t) (k : ∀ σ H Q, t' σ H Q → t σ H Q) : PT X e t' := ⟨fun pins s σ H Q I hw => h.run pins s σ H Q I (k _ _ _ hw)⟩
theorem PS.imp {X : Cx} {e : Stmt} {t t' : TS} (h : PS X e t) (k : ∀ D σ H, t' D σ H → t D σ H) : PS X e t' := ⟨fun pins s σ H D I hw => h.run pins s σ H D I (k _ _ _ hw)⟩
theorem PSs.imp {X : Cx} {e : List Stmt} {t t' : TS} (h : PSs X e t) (k : ∀ D σ H, t' D σ H → t D σ H) : PSs X e t' := ⟨fun pins s σ H D I hw => h.run pins s σ H D I (k _ _ _ hw)⟩
theorem PA.imp {X : Cx} {e : List Expr} {t t' : TA} (h : PA X e t) (k : ∀ σ H Q, t' σ H Q → t σ H Q) : PA X e t' := ⟨fun pos pins s σ H Q I hw => h.run pos pins s σ H Q I (k _ _ _ hw)⟩
theorem OpR.imp {X : Cx} {f : Value → Value → Sem Value} {r r' : R2} (h : OpR X f r) (k : ∀ x y H Q, r' x y H Q → r x y H Q) : OpR X f r' := fun pins s σ H x y v u Q I rx ry hw => h pins s σ H x y v u Q I rx ry (k _ _ _ _ hw)
theorem OpR.frz {X : Cx} {f : Value → Value → Sem Value} {r : R2} (h : OpR X f r) : OpR X f (fun x y H Q => r x y H fun v H1 => FzTo v H1 Q) :=
  fun pins s σ H x y v u Q I rx ry hw => thn (h pins s σ H x y v u _ I rx ry hw) fun _ _ q => EP.frz q
theorem CallR.imp {X : Cx} {f : Value} {r r' : List V → Hp → VK → Prop} (h : CallR X f r) (k : ∀ xs H Q, r' xs H Q → r xs H Q) : CallR X f r' := fun pins s σ H xs us Q I rx hw => h pins s σ H xs us Q I rx (k _ _ _ hw)
theorem CallR.frz {X : Cx} {f : Value} {r : List V → Hp → VK → Prop} (h : CallR X f r) : CallR X f (fun xs H Q => r xs H fun v H1 => FzTo v H1 Q) :=
  fun pins s σ H xs us Q I rx hw => thn (h pins s σ H xs us _ I rx hw) fun _ _ q => EP.frz q
theorem FzTo.new {H : Hp} {p : Addr} {xs : List V} {Q : VK} (h : ∀ o, Q (.ref p) (upd H p (.frz o (.lst xs)))) : FzTo (.ref p) (upd H p (.lst xs)) Q :=
  ⟨p, xs, rfl, upd_same, fun o => by rw [upd_upd]; exact h o⟩
end MC
namespace MC
open PySem PySem.Spec L2

/-! ### what the operations give -/
mutual
def D.py : D → PyData
  | .non => .none
  | .bl b => .bool b
  | .int i => .int i
  | .str x => .str x
  | .tup l => .tuple (pys l)
  | .lst l => .list (pys l)
  | .dct _ _ => .dict []
  | .ins _ _ _ => .dict []
  | .fn _ => .dict []
  | .obj _ => .dict []
  | .scr _ => .dict []
def pys : List D → List PyData
  | [] => []
  | d :: l => d.py :: pys l
end
def D.sh (d : D) : Bool := SeqAt.shaped d.py
/-- equality as Python has it -/
def eqD (a b : D) : Bool := PyData.eqv a.py b.py
def asInts : List D → Option (List Int)
  | [] => some []
  | .int i :: l => (asInts l).map (i :: ·)
  | _ :: _ => none
def asBools : List D → Option (List Bool)
  | [] => some []
  | .bl b :: l => (asBools l).map (b :: ·)
  | _ :: _ => none
def truth : D → Option Bool
  | .non => some false
  | .bl b => some b
  | .int i => some (i != 0)
  | .str x => if x.length ≤ sizeLine then some ((x.length : Int) != 0) else none
  | .tup l => some (!l.isEmpty)
  | .lst l => some (!l.isEmpty)
  | .scr ns => some (!ns.isEmpty)
  | _ => none
/-- x in y -/
def memD (x y : D) : Option Bool := match y with
  | .lst l => if x.sh && (D.lst l).sh then some (l.any fun z => eqD z x) else none
  | .tup l => if x.sh && (D.tup l).sh then some (l.any fun z => eqD z x) else none
  | _ => none
def lim : Int := 18446744073709551616
def opD : Op2 → D → D → Option D
  | .add, .int i, .int j => some (.int (i + j))
  | .add, .tup a, .tup b => if a.length + b.length ≤ sizeLine then some (.tup (a ++ b)) else none
  | .add, .lst a, .lst b => if a.length + b.length ≤ sizeLine then some (.lst (a ++ b)) else none
  | .add, .str a, .str b => if a.length + b.length ≤ sizeLine then some (.str (a ++ b)) else none
  | .sub, .int i, .int j => some (.int (i - j))
  | .mul, .int i, .int j => if (-lim < i ∧ i < lim) ∨ (-lim < j ∧ j < lim) then some (.int (i * j)) else none
  | .mul, .tup l, .int k => if -1000 ≤ k ∧ k ≤ 1000 ∧ l.length ≤ 1000 then some (.tup (List.replicate k.toNat l).flatten) else none
  | .mul, .lst l, .int k => if -1000 ≤ k ∧ k ≤ 1000 ∧ l.length ≤ 1000 then some (.lst (List.replicate k.toNat l).flatten) else none
  | .fdiv, .int i, .int j => if 0 < j ∧ j < 1073741824 then some (.int (i / j)) else none
  | .mod, .int i, .int j => if 0 < j then some (.int (i % j)) else none
  | .pow, .int i, .int j => if 0 ≤ j ∧ j ≤ 1000000 ∧ i.natAbs < 2 ^ 64 then some (.int (i ^ j.toNat)) else none
  | .eq, a, b => if a.sh && b.sh then some (.bl (eqD a b)) else none
  | .ne, a, b => if a.sh && b.sh then some (.bl (!eqD a b)) else none
  | .lt, .int i, .int j => some (.bl (decide (i < j)))
  | .lt, .tup a, .tup b => match asInts a, asInts b with
    | some x, some y => some (.bl (HT.lexLt x y))
    | _, _ => none
  | .le, .int i, .int j => some (.bl (decide (i ≤ j)))
  | .gt, .int i, .int j => some (.bl (decide (j < i)))
  | .ge, .int i, .int j => some (.bl (decide (j ≤ i)))
  | .mem, a, b => (memD a b).map .bl
  | .nmem, a, b => (memD a b).map fun c => .bl (!c)
  | .isN, a, .non => some (.bl (match a with | .non => true | _ => false))
  | .notN, a, .non => some (.bl (match a with | .non => false | _ => true))
  | .isB, .bl a, .bl b => some (.bl (decide (a = b)))
  | _, _, _ => none
def ixOf (a b : D) : Option D := match a, b with
  | .tup l, .int i => atI l i
  | .lst l, .int i => atI l i
  | .scr ns, .int i => (atI ns i).map .int
  | .str z, .int i => if z.length ≤ sizeLine then (atI z.cps.toList i).map fun c => .str ⟨#[c]⟩ else none
  | _, _ => none
def cutL {α : Type} (l : List α) (lo hi : Option Int) : List α := (l.drop (HT.sIx l.length 0 lo)).take (HT.sIx l.length l.length hi - HT.sIx l.length 0 lo)
def slOf (a : D) (lo hi : Option Int) : Option D := match a with
  | .tup l => some (.tup (cutL l lo hi))
  | .lst l => some (.lst (cutL l lo hi))
  | _ => none
def maxI : List Int → Int
  | [] => 0
  | [a] => a
  | a :: l => max a (maxI l)
def minI : List Int → Int
  | [] => 0
  | [a] => a
  | a :: l => min a (minI l)
def prD : Pr → List D → Option D
  | .len, [.tup l] => some (.int l.length)
  | .len, [.lst l] => some (.int l.length)
  | .len, [.scr l] => some (.int l.length)
  | .len, [.str x] => if x.length ≤ sizeLine then some (.int x.length) else none
  | .all, [.lst l] => (asBools l).map fun bs => .bl (bs.all id)
  | .any, [.lst l] => (asBools l).map fun bs => .bl (bs.any id)
  | .sum, [.lst l] => (asInts l).map fun ns => .int ns.sum
  | .sum, [.tup l] => (asInts l).map fun ns => .int ns.sum
  | .max, [.int i, .int j] => some (.int (max i j))
  | .min, [.int i, .int j] => some (.int (min i j))
  | .max, [.lst l] => match asInts l with
    | some (a :: r) => some (.int (maxI (a :: r)))
    | _ => none
  | .min, [.lst l] => match asInts l with
    | some (a :: r) => some (.int (minI (a :: r)))
    | _ => none
  | .tuple, [.lst l] => some (.tup l)
  | .tuple, [.tup l] => some (.tup l)
  | .list, [.lst l] => some (.lst l)
  | .list, [.tup l] => some (.lst l)
  | _, _ => none
def isTy : D → Ty → Option Bool
  | .non, _ => some false
  | .bl _, .bool => some true
  | .bl _, .int => some true
  | .bl _, _ => some false
  | .int _, .int => some true
  | .int _, _ => some false
  | .str _, .str => some true
  | .str _, _ => some false
  | .tup _, .tuple => some true
  | .tup _, _ => some false
  | .lst _, _ => some false
  | _, _ => none

/-! ### running -/
def slot (σ : List Sl) (i : Nat) : Sl := σ.getD i .un
def slotD (σ : List Sl) (i : Nat) : M D := match slot σ i with
  | .imm d => M.pure d
  | _ => M.fail
mutual
def put : Tg → D → List Sl → Option (List Sl)
  | .n i, d, σ => if i < σ.length then some (σ.set i (.imm d)) else none
  | .t l, .tup ds, σ => puts l ds σ
  | .t _, _, _ => none
def puts : List Tg → List D → List Sl → Option (List Sl)
  | [], [], σ => some σ
  | t :: l, d :: ds, σ => (put t d σ).bind (puts l ds)
  | _, _, _ => none
end
def rangeD (lo hi : Int) : List D := (List.range (hi - lo).toNat).map fun i => .int (lo + (i : Nat))
def enumFrom : Nat → List D → List D
  | _, [] => []
  | i, d :: l => .tup [.int (i : Nat), d] :: enumFrom (i + 1) l
def zipD : List D → List D → List D
  | a :: l, b :: m => .tup [a, b] :: zipD l m
  | _, _ => []
def lim62 : Int := 4611686018427387904
/-- the items of what is walked -/
def walkR : List D → Option (List D)
  | [.int j] => if -lim62 ≤ j ∧ j < lim62 ∧ j ≤ 16777216 then some (rangeD 0 j) else none
  | [.int i, .int j] => if (-lim62 ≤ i ∧ i < lim62) ∧ -lim62 ≤ j ∧ j < lim62 ∧ j - i ≤ 16777216 then some (rangeD i j) else none
  | _ => none
def walkE : D → Option (List D)
  | .tup l => some l
  | .lst l => some l
  | _ => none
def walkZ : D → D → Option (List D)
  | .tup l, .tup m => some (zipD l m)
  | .lst l, .lst m => some (zipD l m)
  | _, _ => none
def asB : D → Option Bool
  | .bl b => some b
  | _ => none
/-- the arguments in the parameters' order -/
def permD (perm : List Nat) (ds : List D) : Option (List D) := perm.mapM fun i => ds[i]?
def clear : List Nat → List Sl → List Sl
  | [], σ => σ
  | i :: is, σ => clear is (σ.set i .un)
/-- no error leaves -/
def M.noex {α : Type} (m : M α) : M α := fun g => match m g with
  | some (.ex _, _) => none
  | r => r
@[simp] theorem M.noex_pure {α : Type} (a : α) : M.noex (M.pure a) = M.pure a := rfl
@[simp] theorem M.noex_fail {α : Type} : M.noex (M.fail : M α) = M.fail := rfl
/-- a comprehension's turns -/
def compL (tg : Tg) (test : List Sl → M Bool) (elt : List Sl → M D) (σ : List Sl) : List D → M (List D)
  | [] => M.pure []
  | d :: r => M.bind (M.opt (put tg d σ)) fun σ' => M.bind (test σ') fun t => match t with
    | true => M.bind (elt σ') fun x => M.bind (compL tg test elt σ r) fun xs => M.pure (x :: xs)
    | false => compL tg test elt σ r
variable (Φ : Nat → List D → M D)
mutual
def ev : E → List Sl → M D
  | .var i, σ => slotD σ i
  | .cst d, _ => M.pure d
  | .con _ i, _ => M.pure (.int i)
  | .tup es, σ => M.bind (evs es σ) fun ds => M.pure (.tup ds)
  | .lst es, σ => M.bind (evs es σ) fun ds => M.pure (.lst ds)
  | .op o a b, σ => M.bind (ev a σ) fun x => M.bind (ev b σ) fun y => M.opt (opD o x y)
  | .chn o o' a b c, σ => M.bind (ev a σ) fun x => M.bind (ev b σ) fun y => M.bind (M.opt ((opD o x y).bind asB)) fun t => match t with
    | true => M.bind (ev c σ) fun z => M.opt (opD o' y z)
    | false => M.pure (.bl false)
  | .and es, σ => evAnd es σ
  | .or es, σ => evOr es σ
  | .not e, σ => M.bind (ev e σ) fun x => M.bind (M.opt (truth x)) fun t => M.pure (.bl (!t))
  | .neg e, σ => M.bind (ev e σ) fun x => match x with
    | .int i => M.pure (.int (-i))
    | _ => M.fail
  | .ife c a b, σ => M.bind (ev c σ) fun x => M.bind (M.opt (truth x)) fun t => match t with
    | true => ev a σ
    | false => ev b σ
  | .idx a b, σ => M.bind (ev a σ) fun x => M.bind (ev b σ) fun y => M.opt (ixOf x y)
  | .slc a lo hi, σ => M.bind (ev a σ) fun x => M.bind (evo lo σ) fun l => M.bind (evo hi σ) fun h => M.opt (slOf x l h)
  | .call f es, σ => M.bind (evs es σ) fun ds => Φ f ds
  | .callk f es ks perm, σ => M.bind (evs es σ) fun ds => M.bind (evk ks σ) fun zs => M.bind (M.opt (permD perm (ds ++ zs))) fun as => Φ f as
  | .prim p es, σ => M.bind (evs es σ) fun ds => M.opt (prD p ds)
  | .isi e t, σ => M.bind (ev e σ) fun x => M.opt ((isTy x t).map .bl)
  | .comp elt tg own it cs, σ => M.bind (evi it σ) fun items => M.bind (M.noex (compL tg (fun σ' => evt cs σ') (fun σ' => ev elt σ') (clear own σ) items)) fun ds => M.pure (.lst ds)
  | .len_ i, σ => match slot σ i with
    | .ml l => M.pure (.int l.length)
    | _ => M.fail
  | .at_ i e, σ => M.bind (ev e σ) fun k => match slot σ i with
    | .ml l => M.opt (ixOf (.lst l) k)
    | _ => M.fail
def evs : List E → List Sl → M (List D)
  | [], _ => M.pure []
  | e :: es, σ => M.bind (ev e σ) fun d => M.bind (evs es σ) fun ds => M.pure (d :: ds)
def evk : List (Str × E) → List Sl → M (List D)
  | [], _ => M.pure []
  | (_, e) :: es, σ => M.bind (ev e σ) fun d => M.bind (evk es σ) fun ds => M.pure (d :: ds)
def evo : Option E → List Sl → M (Option Int)
  | none, _ => M.pure none
  | some e, σ => M.bind (ev e σ) fun x => match x with
    | .int i => M.pure (some i)
    | _ => M.fail
def evAnd : List E → List Sl → M D
  | [], _ => M.fail
  | [e], σ => ev e σ
  | e :: es, σ => M.bind (ev e σ) fun x => M.bind (M.opt (truth x)) fun t => match t with
    | true => evAnd es σ
    | false => M.pure x
def evOr : List E → List Sl → M D
  | [], _ => M.fail
  | [e], σ => ev e σ
  | e :: es, σ => M.bind (ev e σ) fun x => M.bind (M.opt (truth x)) fun t => match t with
    | true => M.pure x
    | false => evOr es σ
def evi : It → List Sl → M (List D)
  | .e e, σ => M.bind (ev e σ) fun x => M.opt (walkE x)
  | .rng es, σ => M.bind (evs es σ) fun ds => M.opt (walkR ds)
  | .enum e, σ => M.bind (ev e σ) fun x => M.opt ((walkE x).map (enumFrom 0))
  | .zip a b, σ => M.bind (ev a σ) fun x => M.bind (ev b σ) fun y => M.opt (walkZ x y)
def evt : List E → List Sl → M Bool
  | [], _ => M.pure true
  | [e], σ => M.bind (ev e σ) fun x => M.opt (truth x)
  | _ :: _ :: _, _ => M.fail
end

def setAll : List Nat → List D → List Sl → Option (List Sl)
  | [], [], σ => some σ
  | i :: is, d :: ds, σ => if i < σ.length then setAll is ds (σ.set i (.imm d)) else none
  | _, _, _ => none
def loopF (body : List Sl → M Flow') (tg : Tg) (tmp : List Nat) : List D → List Sl → M Flow'
  | [], σ => M.pure (.next σ)
  | d :: r, σ => M.bind (M.opt (put tg d σ)) fun σ1 => M.bind (body σ1) fun f => match f with
    | .next σ2 => loopF body tg tmp r (clear tmp σ2)
    | .cnt σ2 => loopF body tg tmp r (clear tmp σ2)
    | .brk σ2 => M.pure (.next (clear tmp σ2))
    | .ret x => M.pure (.ret x)
def whilF (c : List Sl → M Bool) (b : List Sl → M Flow') : Nat → List Sl → M Flow'
  | 0, _ => M.fail
  | n + 1, σ => M.bind (c σ) fun t => match t with
    | false => M.pure (.next σ)
    | true => M.bind (b σ) fun f => match f with
      | .next σ2 => whilF c b n σ2
      | .cnt σ2 => whilF c b n σ2
      | .brk σ2 => M.pure (.next σ2)
      | .ret x => M.pure (.ret x)
/-- op=, whole numbers alone -/
def augI : Op2 → D → D → Option D
  | .add, .int i, .int j => some (.int (i + j))
  | .sub, .int i, .int j => some (.int (i - j))
  | _, _, _ => none
def newS (σ : List Sl) (i : Nat) : D → M Flow'
  | .lst l => if i < σ.length then M.pure (.next (σ.set i (.ml l))) else M.fail
  | _ => M.fail
def setS (σ : List Sl) (i : Nat) (k v : D) : M Flow' := match slot σ i, k with
  | .ml l, .int n => match ixN l.length n with
    | some j => M.pure (.next (σ.set i (.ml (l.set j v))))
    | none => M.fail
  | _, _ => M.fail
def appS (σ : List Sl) (i : Nat) (v : D) : M Flow' := match slot σ i with
  | .ml l => if l.length < sizeLine then M.pure (.next (σ.set i (.ml (l ++ [v])))) else M.fail
  | _ => M.fail
def extS (σ : List Sl) (i : Nat) (v : D) : M Flow' := match slot σ i, v with
  | .ml l, .lst m => if l.length + m.length ≤ sizeLine then M.pure (.next (σ.set i (.ml (l ++ m)))) else M.fail
  | _, _ => M.fail
def fzS (σ : List Sl) (i : Nat) : M Flow' := match slot σ i with
  | .ml l => M.pure (.next (σ.set i (.imm (.lst l))))
  | _ => M.fail
def getS (σ : List Sl) (i : Nat) (k : D) : M D := match slot σ i with
  | .ml l => M.opt (ixOf (.lst l) k)
  | _ => M.fail
def mlS (σ : List Sl) (i : Nat) : M (List D) := match slot σ i with
  | .ml l => M.pure l
  | _ => M.fail
variable (fuel : Nat)
mutual
def ex : S → List Sl → M Flow'
  | .asg tg e, σ => M.bind (ev Φ e σ) fun d => M.bind (M.opt (put tg d σ)) fun σ' => M.pure (.next σ')
  | .par is es, σ => M.bind (evs Φ es σ) fun ds => M.bind (M.opt (setAll is ds σ)) fun σ' => M.pure (.next σ')
  | .new i e, σ => M.bind (ev Φ e σ) (newS σ i)
  | .fz i, σ => fzS σ i
  | .clr is, σ => M.pure (.next (clear is σ))
  | .setix i k v, σ => M.bind (ev Φ v σ) fun d => M.bind (mlS σ i) fun _ => M.bind (ev Φ k σ) fun n => setS σ i n d
  | .augix i o k v, σ => M.bind (mlS σ i) fun _ => M.bind (ev Φ k σ) fun n => M.bind (getS σ i n) fun x => M.bind (ev Φ v σ) fun y => M.bind (M.opt (augI o x y)) fun z => setS σ i n z
  | .aug i o e, σ => M.bind (slotD σ i) fun x => M.bind (ev Φ e σ) fun y => M.bind (M.opt (augI o x y)) fun z => M.pure (.next (σ.set i (.imm z)))
  | .app i e, σ => M.bind (mlS σ i) fun _ => M.bind (ev Φ e σ) (appS σ i)
  | .ext i e, σ => M.bind (mlS σ i) fun _ => M.bind (ev Φ e σ) (extS σ i)
  | .ife c a b, σ => M.bind (ev Φ c σ) fun x => M.bind (M.opt (truth x)) fun t => match t with
    | true => exs a σ
    | false => exs b σ
  | .forr tg it b tmp, σ => M.bind (evi Φ it σ) fun items => loopF (fun σ' => exs b σ') tg tmp items σ
  | .whil c b, σ => whilF (fun σ' => M.bind (ev Φ c σ') fun x => M.opt (truth x)) (fun σ' => exs b σ') fuel σ
  | .ret e, σ => M.bind (ev Φ e σ) fun d => M.pure (.ret d)
  | .exp e, σ => M.bind (ev Φ e σ) fun _ => M.pure (.next σ)
  | .raise c, _ => M.exc c
  | .brk, σ => M.pure (.brk σ)
  | .cnt, σ => M.pure (.cnt σ)
def exs : List S → List Sl → M Flow'
  | [], σ => M.pure (.next σ)
  | s :: r, σ => M.bind (ex s σ) fun f => match f with
    | .next σ' => exs r σ'
    | f => M.pure f
end
/-- a def's body, from its arguments -/
def retD : Flow' → M D
  | .ret d => M.pure d
  | .next _ => M.pure .non
  | _ => M.fail
def body (b : List S) (n : Nat) (as : List D) : M D := M.bind (exs Φ fuel b (as.map Sl.imm ++ List.replicate n .un)) retD
end MC
namespace MC
open PySem PySem.Spec L2

def opSem : Op2 → Value → Value → Sem Value
  | .add => binaryOp .Add
  | .sub => binaryOp .Sub
  | .mul => binaryOp .Mult
  | .fdiv => binaryOp .FloorDiv
  | .mod => binaryOp .Mod
  | .pow => binaryOp .Pow
  | .eq => compareOp .Eq
  | .ne => compareOp .NotEq
  | .lt => compareOp .Lt
  | .le => compareOp .LtE
  | .gt => compareOp .Gt
  | .ge => compareOp .GtE
  | .mem => compareOp .In
  | .nmem => compareOp .NotIn
  | .isN => compareOp .Is
  | .notN => compareOp .IsNot
  | .isB => compareOp .Is
/-- an operation's reading over values -/
def rD2 (C : Cn) (f : D → D → Option D) : R2 := fun x y H Q => ∃ ρ dx dy d, Rep C ρ H dx x ∧ Rep C ρ H dy y ∧ f dx dy = some d ∧ ∀ v H', Grow H H' → Rep C ρ H' d v → Q v H'
section
variable {X : Cx} {C : Cn} {ρ : Rho} {H : Hp}
mutual
theorem rep_dp : ∀ {d : D} {v : V}, Rep C ρ H d v → d.py.canLay0 = true → Dp C.K H v d.py
  | .non, v, h, _ => by rw [show v = .non from h]; exact .non
  | .bl b, v, h, _ => by rw [show v = .bl b from h]; exact .bl b
  | .int i, v, h, _ => by rw [show v = .int i from h]; exact .int i
  | .str x, v, h, _ => by rw [show v = .str x from h]; exact .str x
  | .tup l, v, h, c => by
    obtain ⟨a, vs, rfl, q, r⟩ := h
    exact .tup q (reps_dp r c)
  | .lst l, v, h, c => by
    obtain ⟨a, vs, rfl, q, r⟩ := h
    exact .lst (FzL.sq q) (reps_dp r c)
  | .dct _ _, v, h, c => nomatch c
  | .ins _ _ _, v, h, c => nomatch c
  | .fn _, v, h, c => nomatch c
  | .obj _, v, h, c => nomatch c
  | .scr _, v, h, c => nomatch c
theorem reps_dp : ∀ {l : List D} {vs : List V}, Reps C ρ H l vs → PyData.canLayAll0 (pys l) = true → DpAll C.K H vs (pys l)
  | [], vs, h, _ => by rw [show vs = [] from h]; exact .nil
  | d :: l, vs, h, c => by
    obtain ⟨v, r, rfl, h1, h2⟩ := h
    have c' : (d.py.canLay0 && PyData.canLayAll0 (pys l)) = true := c
    obtain ⟨c1, c2⟩ := Bool.and_eq_true_iff.mp c'
    exact .cons (rep_dp h1 c1) (reps_dp h2 c2)
end
theorem sh_dp {d : D} {v : V} (h : Rep C ρ H d v) (s : d.sh = true) : Dp C.K H v d.py := rep_dp h (SeqAt.canLay_of_shaped s)
theorem asInts_rep : ∀ {l : List D} {ns : List Int} {vs : List V}, asInts l = some ns → Reps C ρ H l vs → vs = ns.map V.int
  | [], ns, vs, e, h => by
    cases (Option.some.inj e : [] = ns)
    exact h
  | d :: l, ns, vs, e, h => by
    obtain ⟨v, r, rfl, h1, h2⟩ := h
    cases d with
    | int i =>
      have e' : (asInts l).map (i :: ·) = some ns := e
      obtain ⟨ms, em, rfl⟩ := Option.map_eq_some_iff.mp e'
      rw [List.map_cons, ← asInts_rep em h2, show v = .int i from h1]
    | _ => cases e
theorem asBools_rep : ∀ {l : List D} {ns : List Bool} {vs : List V}, asBools l = some ns → Reps C ρ H l vs → vs = ns.map V.bl
  | [], ns, vs, e, h => by
    cases (Option.some.inj e : [] = ns)
    exact h
  | d :: l, ns, vs, e, h => by
    obtain ⟨v, r, rfl, h1, h2⟩ := h
    cases d with
    | bl i =>
      have e' : (asBools l).map (i :: ·) = some ns := e
      obtain ⟨ms, em, rfl⟩ := Option.map_eq_some_iff.mp e'
      rw [List.map_cons, ← asBools_rep em h2, show v = .bl i from h1]
    | _ => cases e

/-! ### lists that stand still: + and * -/
/-- a list, changing or not -/
def LsH (H : Hp) (l : Addr) (xs : List V) : Prop := H l = some (.lst xs) ∨ FzL H l xs
theorem lsM {pins : List (Addr × Obj)} {σ : L2.St} {s : Shared} {l : Addr} {xs : List V} (I : L2.Inv X pins σ H s) (h : LsH H l xs) : xs.length ≤ sizeLine ∧ ∃ (its : List Value) (n : Nat), Vals xs its ∧ xs.length = its.length ∧ s.heap.get? l = some { cls := .type "list", data := .seq its.toArray n } := by
  rcases h with h | ⟨o, h⟩
  · exact I.lstM h
  · obtain ⟨e, hz, its, n, r, e2⟩ := (show ObjOk X.prog X.w H s.heap l (.frz o (.lst xs)) from I.hok l _ h)
    exact ⟨hz, its, n, r, r.length, e2⟩
def rCatF : R2 := fun x y H Q => ∃ l b xs zs, x = .ref l ∧ y = .ref b ∧ LsH H l xs ∧ LsH H b zs ∧ xs.length + zs.length ≤ sizeLine ∧ ∀ p, H p = none → Q (.ref p) (upd H p (.lst (xs ++ zs)))
open PyProof.Rows in
theorem op_catF : OpR X (binaryOp .Add) rCatF := by
  intro pins s σ H x y v u Q I rx ry h
  obtain ⟨l, b, xs, zs, rfl, rfl, hH, hB, hz, q⟩ := h
  cases rx
  cases ry
  obtain ⟨z, its, n, r, hl, e⟩ := lsM I hH
  obtain ⟨z2, its2, n2, r2, hl2, e2⟩ := lsM I hB
  refine PySem.P.add_list e e2 ?_ (by rw [List.size_toArray, List.size_toArray]; omega)
  have ea : its.toArray ++ its2.toArray = (its ++ its2).toArray := by simp
  rw [ea]
  exact ⟨.ref _, _, I.lnew (t' := s.toks) (r.append r2) (by rw [List.length_append]; omega), rfl, q _ I.fresh⟩
def rRepF : R2 := fun x y H Q => ∃ l k xs, x = .ref l ∧ y = .int k ∧ LsH H l xs ∧ -1000 ≤ k ∧ k ≤ 1000 ∧ xs.length ≤ 1000 ∧
  ∀ p, H p = none → Q (.ref p) (upd H p (.lst (List.replicate k.toNat xs).flatten))
open PyProof.Rows in
theorem op_repF : OpR X (binaryOp .Mult) rRepF := by
  intro pins s σ H x y v u Q I rx ry h
  obtain ⟨l, k, xs, rfl, rfl, hH, h1, h2, hx, q⟩ := h
  cases rx
  obtain ⟨t, rfl⟩ := ry
  obtain ⟨z, its, n, r, hl, e⟩ := lsM I hH
  have hz : xs.length * k.toNat ≤ sizeLine := by
    rw [sizeLine_eq]
    have a1 : xs.length * k.toNat ≤ 1000 * 1000 := Nat.mul_le_mul hx (by omega)
    omega
  have hlen : its.toArray.size * k.toNat ≤ sizeLine := by rw [List.size_toArray, ← hl]; exact hz
  have hcap : ¬ its.toArray.size * k.toNat > (2 ^ 63 - 1) / 8 := by
    have : (sizeLine : Nat) ≤ (2 ^ 63 - 1) / 8 := by decide
    omega
  have hfit : ¬ (!Builtin.List.listFitsIndex k) = true := by
    rw [fitsIndex_both (by omega) (by omega)]
    exact Bool.false_ne_true
  have hlong : ¬ Builtin.List.listTooLong (its.toArray.size * k.toNat) = true := by
    rw [notLongL hlen]
    exact Bool.false_ne_true
  have hnew : List.foldl (fun x1 x2 => x1 ++ x2) #[] (List.replicate (if its.toArray.isEmpty = true then 0 else k.toNat) its.toArray) = (List.replicate k.toNat its).flatten.toArray := by
    have f0 : ∀ m : Nat, List.foldl (fun x1 x2 => x1 ++ x2) #[] (List.replicate m its.toArray) = (List.replicate m its).flatten.toArray := fun m => by
      have := foldl_rep its m []
      rw [List.nil_append] at this
      exact this
    rw [f0]
    cases its with
    | nil => simp
    | cons a r' => rw [if_neg (by simp)]
  refine wpAny_binaryOp_repeat_ref (T := "list") (U := "int") (by decide) ⟨_, e, rfl⟩ (fun s' => typeIs_int s' k t) noFill_list_mul F.fills_int_mul F.slot_int_rmul repeat_list F.slot_int_index.lookup
    (call_meets F.slot_int_rmul (typeIs_int s k t) F.entry_int_rmul (F.args_int_rmul_2 _ _) (int___rmul___int_list k t l its.toArray n)
      ⟨e, rfl, ⟨_, e, rfl⟩, call_meets F.slot_list_mul ⟨_, e, rfl⟩ F.entry_list_mul (F.args_list_mul_2 _ _) (AutoListH.list___mul___list_int_3 l its.toArray n k t hfit hcap hlong) ⟨e, ?_⟩⟩)
  rw [hnew]
  exact ⟨.ref _, _, I.lnew (t' := s.toks) (r.rep k.toNat) (by rw [PyProof.Rows.lm_len_rep_flat, Nat.mul_comm]; exact hz), rfl, q _ I.fresh⟩
end
end MC
namespace MC
open PySem PySem.Spec L2
open PyProof.Rows in
theorem tuple_mul1 (l : Addr) (items : Array Value) (n : Nat) (dd : Option Addr) (sl : Array (Option Value)) (x : Int) (u : Tok) (c0 : (decide (x < -(2 ^ 63)) || decide (x ≥ 2 ^ 63)) = false) (c1 : (items.isEmpty || x == 1) = true) :
    Meets (Builtin.«tuple.__mul__» ⟨[.ref l, .int x u], []⟩) (fun _ R s => s.heap.get? l = some { cls := .type "tuple", dict := dd, data := .seq items n, slots := sl } ∧
      R (.ok (.ret (Value.ref l))) s) :=
  .of_wp fun prog w A R s h => by
    obtain ⟨hp, g, d, tk, os⟩ := s
    obtain ⟨hl, h⟩ := h
    have f1 := AutoSeq1.idx_int
    wp_walk using wpAny_loadPart' hl
    repeat (first
      | (refine wpAny_ite_false (decide_eq_false (by rw [c0]; exact Bool.false_ne_true)) ?_; wp_walk using wpAny_loadPart' hl)
      | (refine wpAny_ite_true (decide_eq_true (by rw [c1])) ?_; wp_walk using wpAny_loadPart' hl))
    exact ⟨_, rfl, h⟩
open PyProof.Rows in
theorem tuple_mul0 (l : Addr) (items : Array Value) (n : Nat) (dd : Option Addr) (sl : Array (Option Value)) (x : Int) (u : Tok) (c0 : (decide (x < -(2 ^ 63)) || decide (x ≥ 2 ^ 63)) = false) (c1 : (items.isEmpty || x == 1) = false) (c2 : (decide (x ≤ 0) || items.isEmpty) = true) :
    Meets (Builtin.«tuple.__mul__» ⟨[.ref l, .int x u], []⟩) (fun _ R s => s.heap.get? l = some { cls := .type "tuple", dict := dd, data := .seq items n, slots := sl } ∧
      R (.ok (.ret (Value.ref s.heap.objs.size))) { s with heap := s.heap.push { cls := Value.type "tuple", data := Data.seq #[] }, toks := s.toks }) :=
  .of_wp fun prog w A R s h => by
    obtain ⟨hp, g, d, tk, os⟩ := s
    obtain ⟨hl, h⟩ := h
    have f1 := AutoSeq1.idx_int
    wp_walk using wpAny_loadPart' hl
    repeat (first
      | (refine wpAny_ite_false (decide_eq_false (by rw [c0]; exact Bool.false_ne_true)) ?_; wp_walk using wpAny_loadPart' hl)
      | (refine wpAny_ite_false (decide_eq_false (by rw [c1]; exact Bool.false_ne_true)) ?_; wp_walk using wpAny_loadPart' hl)
      | (refine wpAny_ite_true (decide_eq_true (by rw [c2])) ?_; wp_walk using wpAny_loadPart' hl)
      | (refine wpAny_ite_false (decide_eq_false (Nat.not_lt.mpr (Nat.zero_le _))) ?_; wp_walk using wpAny_loadPart' hl))
    exact ⟨_, rfl, h⟩
end MC
namespace MC
open PySem PySem.Spec L2
section
variable {X : Cx} {C : Cn}
def rRepTF (K : PySem.W.Frag) : R2 := fun x y H Q => ∃ l k xs, x = .ref l ∧ y = .int k ∧ SqT K H l xs ∧ -1000 ≤ k ∧ k ≤ 1000 ∧ xs.length ≤ 1000 ∧
  ∀ v H', Grow H H' → (∃ p, v = .ref p ∧ SqT K H' p (List.replicate k.toNat xs).flatten) → Q v H'
theorem flat1 {α : Type} (xs : List α) : (List.replicate 1 xs).flatten = xs := by simp
theorem flat_nil {α : Type} (n : Nat) : (List.replicate n ([] : List α)).flatten = [] := by
  induction n with
  | zero => rfl
  | succ n ih => rw [List.replicate_succ, List.flatten_cons, ih]; rfl
open PyProof.Rows in
theorem op_repTF : OpR X (binaryOp .Mult) (rRepTF X.K) := by
  intro pins s σ H x y v u Q I rx ry h
  obtain ⟨l, k, xs, rfl, rfl, hT, h1, h2, hz, q⟩ := h
  by_cases hk : xs ≠ [] ∧ 2 ≤ k
  · exact op_repT pins s σ H _ _ v u Q I rx ry ⟨l, k, xs, rfl, rfl, hT, hk.1, hk.2, h2, hz, fun p hp => q _ _ (Grow.upd hp) ⟨p, rfl, SqT.of upd_same⟩⟩
  · cases rx
    obtain ⟨t, rfl⟩ := ry
    obtain ⟨its, r, ⟨⟨cls, dd, data, sl⟩, ho, hc, n, hd⟩, hs⟩ := I.tuple hT
    simp only at hc hd
    subst hc hd
    have c0 : (decide (k < -(2 ^ 63)) || decide (k ≥ 2 ^ 63)) = false := by
      rw [decide_eq_false (by omega), decide_eq_false (by omega)] <;> rfl
    have hle : its.length = xs.length := r.length.symm
    by_cases h0 : (its.toArray.isEmpty || k == 1) = true
    · refine wpAny_binaryOp_repeat_ref (T := "tuple") (U := "int") (by decide) ⟨_, ho, rfl⟩ (fun s' => typeIs_int s' k t) noFill_tuple_mul F.fills_int_mul F.slot_int_rmul repeat_tuple F.slot_int_index.lookup
        (call_meets F.slot_int_rmul (typeIs_int s k t) F.entry_int_rmul (F.args_int_rmul_2 _ _) (int_rmul_tuple k t l its.toArray n dd sl)
          ⟨ho, rfl, ⟨_, ho, rfl⟩, call_meets F.slot_tuple_mul ⟨_, ho, rfl⟩ F.entry_tuple_mul (F.args_tuple_mul_2 _ _) (tuple_mul1 l its.toArray n dd sl k t c0 h0) ⟨ho, ?_⟩⟩)
      refine ⟨.ref l, H, I, rfl, q _ _ (Grow.refl _) ⟨l, rfl, ?_⟩⟩
      have e : (List.replicate k.toNat xs).flatten = xs := by
        rcases Bool.or_eq_true_iff.mp h0 with z | z
        · have : xs = [] := by
            cases its with
            | nil => cases r; rfl
            | cons a b => exact absurd z (by simp)
          rw [this, flat_nil]
        · have : k = 1 := by simpa using z
          rw [this]
          exact flat1 xs
      rw [e]
      exact hT
    · have h0 : (its.toArray.isEmpty || k == 1) = false := by simpa using h0
      obtain ⟨e1, e2⟩ := Bool.or_eq_false_iff.mp h0
      have hx : xs ≠ [] := fun z => by
        subst z
        cases r
        exact absurd e1 (by simp)
      have k1 : k ≠ 1 := by simpa using e2
      have k0 : k ≤ 0 := by
        have : ¬ 2 ≤ k := fun z => hk ⟨hx, z⟩
        omega
      have c2 : (decide (k ≤ 0) || its.toArray.isEmpty) = true := by rw [decide_eq_true k0]; rfl
      refine wpAny_binaryOp_repeat_ref (T := "tuple") (U := "int") (by decide) ⟨_, ho, rfl⟩ (fun s' => typeIs_int s' k t) noFill_tuple_mul F.fills_int_mul F.slot_int_rmul repeat_tuple F.slot_int_index.lookup
        (call_meets F.slot_int_rmul (typeIs_int s k t) F.entry_int_rmul (F.args_int_rmul_2 _ _) (int_rmul_tuple k t l its.toArray n dd sl)
          ⟨ho, rfl, ⟨_, ho, rfl⟩, call_meets F.slot_tuple_mul ⟨_, ho, rfl⟩ F.entry_tuple_mul (F.args_tuple_mul_2 _ _) (tuple_mul0 l its.toArray n dd sl k t c0 h0 c2) ⟨ho, ?_⟩⟩)
      refine ⟨.ref s.heap.objs.size, _, I.laid (t' := s.toks) (o := .tup []) (fun b ob q => Heap.get?_push_of_some _ q) (Nat.le_refl _) ⟨Nat.zero_le _, [], .nil, IsTup.new _ _⟩, rfl, q _ _ (Grow.upd (I.hok.fresh (Nat.le_refl _))) ⟨_, rfl, ?_⟩⟩
      have e : k.toNat = 0 := by omega
      rw [e]
      exact SqT.of upd_same
/-! ### in -/
open PyProof.Rows in
theorem op_inDT (hu : X.A.units + 65 < cLine) : OpR X (compareOp .In) (fun x y H Q => ∃ d ds, Dp X.K H x d ∧ Dp X.K H y (.tuple ds) ∧ SeqAt.shaped d = true ∧ SeqAt.shaped (.tuple ds) = true ∧ Q (.bl (ds.any fun z => PyData.eqv z d)) H) := by
  intro pins s σ H x y v u Q I rx ry h
  obtain ⟨d, ds, hd, he, sd, se, q⟩ := h
  obtain ⟨as, r1⟩ := Dp.reads I d x v hd rx
  obtain ⟨bs, r2⟩ := Dp.reads I (.tuple ds) y u he ry
  exact SeqAt.in_tuple_reads r2 r1 (SeqAt.canLay_of_shaped se) (SeqAt.canLay_of_shaped sd) (room_in_shaped sd hu) ⟨.bl _, H, I, rfl, q⟩
open PyProof.Rows in
theorem op_notInDT (hu : X.A.units + 65 < cLine) : OpR X (compareOp .NotIn) (fun x y H Q => ∃ d ds, Dp X.K H x d ∧ Dp X.K H y (.tuple ds) ∧ SeqAt.shaped d = true ∧ SeqAt.shaped (.tuple ds) = true ∧ Q (.bl (!ds.any fun z => PyData.eqv z d)) H) := by
  intro pins s σ H x y v u Q I rx ry h
  obtain ⟨d, ds, hd, he, sd, se, q⟩ := h
  obtain ⟨as, r1⟩ := Dp.reads I d x v hd rx
  obtain ⟨bs, r2⟩ := Dp.reads I (.tuple ds) y u he ry
  exact SeqAt.notIn_tuple_reads r2 r1 (SeqAt.canLay_of_shaped se) (SeqAt.canLay_of_shaped sd) (room_in_shaped sd hu) ⟨.bl _, H, I, rfl, q⟩
end
end MC
namespace MC
open PySem PySem.Spec L2
section
variable {X : Cx} {C : Cn}
theorem pys_any (x : D) : ∀ l : List D, (pys l).any (fun z => PyData.eqv z x.py) = l.any fun z => eqD z x
  | [] => rfl
  | d :: l => by
    show (PyData.eqv d.py x.py || (pys l).any _) = (eqD d x || l.any _)
    rw [pys_any x l]
    rfl
/-- a rule by cases of the operation's values -/
theorem op_case {f : Value → Value → Sem Value} {g : D → D → Option D}
    (h : ∀ (dx dy d : D), g dx dy = some d → OpR X f (fun x y H Q => ∃ ρ, Rep C ρ H dx x ∧ Rep C ρ H dy y ∧ ∀ v H', Grow H H' → Rep C ρ H' d v → Q v H')) : OpR X f (rD2 C g) := by
  intro pins s σ H x y v u Q I rx ry q
  obtain ⟨ρ, dx, dy, d, h1, h2, e, k⟩ := q
  exact h dx dy d e pins s σ H x y v u Q I rx ry ⟨ρ, h1, h2, k⟩
theorem two_int {f : Value → Value → Sem Value} {i j : Int} {d : D} {c : Int → Int → Prop} {g : Int → Int → V} (r : OpR X f (rI c g)) (hc : c i j) (hd : ∀ ρ H, Rep C ρ H d (g i j)) :
    OpR X f (fun x y H Q => ∃ ρ, Rep C ρ H (.int i) x ∧ Rep C ρ H (.int j) y ∧ ∀ v H', Grow H H' → Rep C ρ H' d v → Q v H') :=
  OpR.imp r fun x y H Q ⟨ρ, h1, h2, k⟩ => ⟨i, j, h1, h2, hc, k _ _ (Grow.refl _) (hd ρ H)⟩
theorem two_int0 {f : Value → Value → Sem Value} {i j : Int} {d : D} {g : Int → Int → V} (r : OpR X f (rI0 g)) (hd : ∀ ρ H, Rep C ρ H d (g i j)) :
    OpR X f (fun x y H Q => ∃ ρ, Rep C ρ H (.int i) x ∧ Rep C ρ H (.int j) y ∧ ∀ v H', Grow H H' → Rep C ρ H' d v → Q v H') :=
  OpR.imp r fun x y H Q ⟨ρ, h1, h2, k⟩ => ⟨i, j, h1, h2, k _ _ (Grow.refl _) (hd ρ H)⟩
theorem fz_at {H : Hp} {p : Addr} {o : Obj} {xs : List V} : FzL (upd H p (.frz o (.lst xs))) p xs := ⟨o, upd_same⟩
theorem snd_add (hK : X.K = C.K) : OpR X (binaryOp .Add) (rD2 C (opD .add)) := op_case fun dx dy d e => by
  cases dx with
  | int i =>
    cases dy with
    | int j =>
      cases (Option.some.inj e : D.int (i + j) = d)
      exact two_int0 op_add fun _ _ => rfl
    | _ => cases e
  | tup a =>
    cases dy with
    | tup b =>
      have e' : (if a.length + b.length ≤ sizeLine then some (D.tup (a ++ b)) else none) = some d := e
      split at e'
      · rename_i hz
        cases e'
        refine OpR.imp op_catA fun x y H Q hh => ?_
        obtain ⟨ρ, ⟨p, vs, rfl, h1, r1⟩, ⟨p2, ws, rfl, h2, r2⟩, k⟩ := hh
        rw [hK]
        have l1 := r1.len
        have l2 := r2.len
        refine ⟨p, p2, vs, ws, rfl, rfl, h1, h2, by omega, fun z => ?_, fun _ z => ?_, fun _ _ q hq => ?_⟩
        · subst z
          have : a = [] := List.eq_nil_of_length_eq_zero (by rw [← l1]; rfl)
          subst this
          exact k _ _ (Grow.refl _) ⟨p2, ws, rfl, h2, r2⟩
        · subst z
          have : b = [] := List.eq_nil_of_length_eq_zero (by rw [← l2]; rfl)
          subst this
          rw [List.append_nil] at k
          exact k _ _ (Grow.refl _) ⟨p, vs, rfl, h1, r1⟩
        · exact k _ _ (Grow.upd hq) ⟨q, _, rfl, SqT.of upd_same, (r1.append r2).grow (Grow.upd hq)⟩
      · cases e'
    | _ => cases e
  | lst a =>
    cases dy with
    | lst b =>
      have e' : (if a.length + b.length ≤ sizeLine then some (D.lst (a ++ b)) else none) = some d := e
      split at e'
      · rename_i hz
        cases e'
        refine OpR.imp (OpR.frz op_catF) fun x y H Q hh => ?_
        obtain ⟨ρ, ⟨p, vs, rfl, h1, r1⟩, ⟨p2, ws, rfl, h2, r2⟩, k⟩ := hh
        have l1 := r1.len
        have l2 := r2.len
        refine ⟨p, p2, vs, ws, rfl, rfl, .inr h1, .inr h2, by omega, fun q hq => FzTo.new fun o => ?_⟩
        exact k _ _ (Grow.upd hq) ⟨q, _, rfl, fz_at, (r1.append r2).grow (Grow.upd hq)⟩
      · cases e'
    | _ => cases e
  | str a =>
    cases dy with
    | str b =>
      have e' : (if a.length + b.length ≤ sizeLine then some (D.str (a ++ b)) else none) = some d := e
      split at e'
      · rename_i hz
        cases e'
        exact OpR.imp op_add_str fun x y H Q ⟨ρ, h1, h2, k⟩ => ⟨a, b, h1, h2, hz, k _ _ (Grow.refl _) rfl⟩
      · cases e'
    | _ => cases e
  | _ => cases dy <;> cases e
theorem lim_eq : lim = 2 ^ 64 := by decide
theorem snd_mul (hK : X.K = C.K) : OpR X (binaryOp .Mult) (rD2 C (opD .mul)) := op_case fun dx dy d e => by
  cases dx with
  | int i =>
    cases dy with
    | int j =>
      have e' : (if (-lim < i ∧ i < lim) ∨ (-lim < j ∧ j < lim) then some (D.int (i * j)) else none) = some d := e
      split at e'
      · rename_i hz
        cases e'
        rw [lim_eq] at hz
        exact two_int op_mul hz fun _ _ => rfl
      · cases e'
    | _ => cases e
  | tup l =>
    cases dy with
    | int m =>
      have e' : (if -1000 ≤ m ∧ m ≤ 1000 ∧ l.length ≤ 1000 then some (D.tup (List.replicate m.toNat l).flatten) else none) = some d := e
      split at e'
      · rename_i hz
        cases e'
        refine OpR.imp op_repTF fun x y H Q hh => ?_
        obtain ⟨ρ, ⟨p, vs, rfl, h1, r1⟩, h2, k⟩ := hh
        rw [hK]
        have l1 := r1.len
        refine ⟨p, m, vs, rfl, h2, h1, hz.1, hz.2.1, by omega, fun v H' g ⟨q, e, hq⟩ => ?_⟩
        exact k _ _ g ⟨q, _, e, hq, (r1.flat m.toNat).grow g⟩
      · cases e'
    | _ => cases e
  | lst l =>
    cases dy with
    | int m =>
      have e' : (if -1000 ≤ m ∧ m ≤ 1000 ∧ l.length ≤ 1000 then some (D.lst (List.replicate m.toNat l).flatten) else none) = some d := e
      split at e'
      · rename_i hz
        cases e'
        refine OpR.imp (OpR.frz op_repF) fun x y H Q hh => ?_
        obtain ⟨ρ, ⟨p, vs, rfl, h1, r1⟩, h2, k⟩ := hh
        have l1 := r1.len
        refine ⟨p, m, vs, rfl, h2, .inr h1, hz.1, hz.2.1, by omega, fun q hq => FzTo.new fun o => ?_⟩
        exact k _ _ (Grow.upd hq) ⟨q, _, rfl, fz_at, (r1.flat m.toNat).grow (Grow.upd hq)⟩
      · cases e'
    | _ => cases e
  | _ => cases dy <;> cases e
theorem snd_sub : OpR X (binaryOp .Sub) (rD2 C (opD .sub)) := op_case fun dx dy d e => by
  cases dx with
  | int i =>
    cases dy with
    | int j =>
      cases (Option.some.inj e : D.int (i - j) = d)
      exact two_int0 op_sub fun _ _ => rfl
    | _ => cases e
  | _ => cases dy <;> cases e
theorem snd_fdiv : OpR X (binaryOp .FloorDiv) (rD2 C (opD .fdiv)) := op_case fun dx dy d e => by
  cases dx with
  | int i =>
    cases dy with
    | int j =>
      have e' : (if 0 < j ∧ j < 1073741824 then some (D.int (i / j)) else none) = some d := e
      split at e'
      · rename_i hz
        cases e'
        exact two_int op_fdiv hz fun _ _ => rfl
      · cases e'
    | _ => cases e
  | _ => cases dy <;> cases e
theorem snd_mod : OpR X (binaryOp .Mod) (rD2 C (opD .mod)) := op_case fun dx dy d e => by
  cases dx with
  | int i =>
    cases dy with
    | int j =>
      have e' : (if 0 < j then some (D.int (i % j)) else none) = some d := e
      split at e'
      · rename_i hz
        cases e'
        exact two_int op_mod hz fun _ _ => rfl
      · cases e'
    | _ => cases e
  | _ => cases dy <;> cases e
theorem snd_pow : OpR X (binaryOp .Pow) (rD2 C (opD .pow)) := op_case fun dx dy d e => by
  cases dx with
  | int i =>
    cases dy with
    | int j =>
      have e' : (if 0 ≤ j ∧ j ≤ 1000000 ∧ i.natAbs < 2 ^ 64 then some (D.int (i ^ j.toNat)) else none) = some d := e
      split at e'
      · rename_i hz
        cases e'
        exact two_int op_pow hz fun _ _ => rfl
      · cases e'
    | _ => cases e
  | _ => cases dy <;> cases e
theorem eq_def (dx dy : D) : opD .eq dx dy = if dx.sh && dy.sh then some (.bl (eqD dx dy)) else none := by cases dx <;> rfl
theorem ne_def (dx dy : D) : opD .ne dx dy = if dx.sh && dy.sh then some (.bl (!eqD dx dy)) else none := by cases dx <;> rfl
theorem snd_eq (hK : X.K = C.K) (hu : X.A.units + 64 < cLine) : OpR X (compareOp .Eq) (rD2 C (opD .eq)) := op_case fun dx dy d e => by
  rw [eq_def] at e
  split at e
  · rename_i hz
    cases e
    obtain ⟨s1, s2⟩ := Bool.and_eq_true_iff.mp hz
    refine OpR.imp (op_eqD hu) fun x y H Q hh => ?_
    obtain ⟨ρ, h1, h2, k⟩ := hh
    rw [hK]
    exact ⟨dx.py, dy.py, sh_dp h1 s1, sh_dp h2 s2, s1, s2, k _ _ (Grow.refl _) rfl⟩
  · cases e
theorem snd_ne (hK : X.K = C.K) (hu : X.A.units + 64 < cLine) : OpR X (compareOp .NotEq) (rD2 C (opD .ne)) := op_case fun dx dy d e => by
  rw [ne_def] at e
  split at e
  · rename_i hz
    cases e
    obtain ⟨s1, s2⟩ := Bool.and_eq_true_iff.mp hz
    refine OpR.imp (op_neD hu) fun x y H Q hh => ?_
    obtain ⟨ρ, h1, h2, k⟩ := hh
    rw [hK]
    exact ⟨dx.py, dy.py, sh_dp h1 s1, sh_dp h2 s2, s1, s2, k _ _ (Grow.refl _) rfl⟩
  · cases e
theorem snd_lt (hK : X.K = C.K) (hu : X.A.units < cLine) : OpR X (compareOp .Lt) (rD2 C (opD .lt)) := op_case fun dx dy d e => by
  cases dx with
  | int i =>
    cases dy with
    | int j =>
      cases (Option.some.inj e : D.bl (decide (i < j)) = d)
      exact two_int0 op_lt fun _ _ => rfl
    | _ => cases e
  | tup a =>
    cases dy with
    | tup b =>
      have e' : (match asInts a, asInts b with
        | some x, some y => some (D.bl (HT.lexLt x y))
        | _, _ => none) = some d := e
      split at e'
      · rename_i x' y' ea eb
        cases e'
        refine OpR.imp (op_ltT hu) fun x y H Q hh => ?_
        obtain ⟨ρ, ⟨p, vs, rfl, h1, r1⟩, ⟨p2, ws, rfl, h2, r2⟩, k⟩ := hh
        rw [hK]
        rw [asInts_rep ea r1] at h1
        rw [asInts_rep eb r2] at h2
        exact ⟨p, p2, x', y', rfl, rfl, h1, h2, k _ _ (Grow.refl _) rfl⟩
      · cases e'
    | _ => cases e
  | _ => cases dy <;> cases e
theorem snd_le : OpR X (compareOp .LtE) (rD2 C (opD .le)) := op_case fun dx dy d e => by
  cases dx with
  | int i =>
    cases dy with
    | int j =>
      cases (Option.some.inj e : D.bl (decide (i ≤ j)) = d)
      exact two_int0 op_le fun _ _ => rfl
    | _ => cases e
  | _ => cases dy <;> cases e
theorem snd_gt : OpR X (compareOp .Gt) (rD2 C (opD .gt)) := op_case fun dx dy d e => by
  cases dx with
  | int i =>
    cases dy with
    | int j =>
      cases (Option.some.inj e : D.bl (decide (j < i)) = d)
      exact two_int0 op_gt fun _ _ => rfl
    | _ => cases e
  | _ => cases dy <;> cases e
theorem snd_ge : OpR X (compareOp .GtE) (rD2 C (opD .ge)) := op_case fun dx dy d e => by
  cases dx with
  | int i =>
    cases dy with
    | int j =>
      cases (Option.some.inj e : D.bl (decide (j ≤ i)) = d)
      exact two_int0 op_ge fun _ _ => rfl
    | _ => cases e
  | _ => cases dy <;> cases e
theorem mem_def (dx dy : D) : opD .mem dx dy = (memD dx dy).map .bl := by cases dx <;> rfl
theorem nmem_def (dx dy : D) : opD .nmem dx dy = (memD dx dy).map fun c => .bl (!c) := by cases dx <;> rfl
theorem snd_mem (hK : X.K = C.K) (hu : X.A.units + 65 < cLine) : OpR X (compareOp .In) (rD2 C (opD .mem)) := op_case fun dx dy d e => by
  rw [mem_def] at e
  obtain ⟨b, e1, rfl⟩ := Option.map_eq_some_iff.mp e
  cases dy with
  | lst l =>
    have e' : (if dx.sh && (D.lst l).sh then some (l.any fun z => eqD z dx) else none) = some b := e1
    split at e'
    · rename_i hz
      cases e'
      obtain ⟨s1, s2⟩ := Bool.and_eq_true_iff.mp hz
      refine OpR.imp (op_inD hu) fun x y H Q hh => ?_
      obtain ⟨ρ, h1, h2, k⟩ := hh
      rw [hK]
      refine ⟨dx.py, pys l, sh_dp h1 s1, sh_dp h2 s2, s1, s2, k _ _ (Grow.refl _) ?_⟩
      rw [pys_any]
      rfl
    · cases e'
  | tup l =>
    have e' : (if dx.sh && (D.tup l).sh then some (l.any fun z => eqD z dx) else none) = some b := e1
    split at e'
    · rename_i hz
      cases e'
      obtain ⟨s1, s2⟩ := Bool.and_eq_true_iff.mp hz
      refine OpR.imp (op_inDT hu) fun x y H Q hh => ?_
      obtain ⟨ρ, h1, h2, k⟩ := hh
      rw [hK]
      refine ⟨dx.py, pys l, sh_dp h1 s1, sh_dp h2 s2, s1, s2, k _ _ (Grow.refl _) ?_⟩
      rw [pys_any]
      rfl
    · cases e'
  | _ => cases e1
theorem snd_nmem (hK : X.K = C.K) (hu : X.A.units + 65 < cLine) : OpR X (compareOp .NotIn) (rD2 C (opD .nmem)) := op_case fun dx dy d e => by
  rw [nmem_def] at e
  obtain ⟨b, e1, rfl⟩ := Option.map_eq_some_iff.mp e
  cases dy with
  | lst l =>
    have e' : (if dx.sh && (D.lst l).sh then some (l.any fun z => eqD z dx) else none) = some b := e1
    split at e'
    · rename_i hz
      cases e'
      obtain ⟨s1, s2⟩ := Bool.and_eq_true_iff.mp hz
      refine OpR.imp (op_notInD hu) fun x y H Q hh => ?_
      obtain ⟨ρ, h1, h2, k⟩ := hh
      rw [hK]
      refine ⟨dx.py, pys l, sh_dp h1 s1, sh_dp h2 s2, s1, s2, k _ _ (Grow.refl _) ?_⟩
      rw [pys_any]
      rfl
    · cases e'
  | tup l =>
    have e' : (if dx.sh && (D.tup l).sh then some (l.any fun z => eqD z dx) else none) = some b := e1
    split at e'
    · rename_i hz
      cases e'
      obtain ⟨s1, s2⟩ := Bool.and_eq_true_iff.mp hz
      refine OpR.imp (op_notInDT hu) fun x y H Q hh => ?_
      obtain ⟨ρ, h1, h2, k⟩ := hh
      rw [hK]
      refine ⟨dx.py, pys l, sh_dp h1 s1, sh_dp h2 s2, s1, s2, k _ _ (Grow.refl _) ?_⟩
      rw [pys_any]
      rfl
    · cases e'
  | _ => cases e1
def isNonD : D → Bool
  | .non => true
  | _ => false
theorem isN_of {ρ : Rho} {H : Hp} {d : D} {v : V} (h : Rep C ρ H d v) : decide (v = .non) = isNonD d := by
  cases d with
  | non => rw [show v = .non from h]; rfl
  | bl b => rw [show v = .bl b from h]; rfl
  | int i => rw [show v = .int i from h]; rfl
  | str x => rw [show v = .str x from h]; rfl
  | tup l => obtain ⟨a, vs, rfl, _⟩ := h; rfl
  | lst l => obtain ⟨a, vs, rfl, _⟩ := h; rfl
  | dct _ _ => exact h.elim
  | ins _ _ _ => exact h.elim
  | fn f => rw [show v = .ref _ from h]; rfl
  | obj n => obtain ⟨p, _, rfl⟩ := h; rfl
  | scr n => obtain ⟨p, rfl, _⟩ := h; rfl
theorem snd_isN : OpR X (compareOp .Is) (rD2 C (opD .isN)) := op_case fun dx dy d e => by
  cases dy with
  | non =>
    have e' : some (D.bl (isNonD dx)) = some d := by rw [← e]; cases dx <;> rfl
    cases e'
    refine OpR.imp op_isN fun x y H Q ⟨ρ, h1, h2, k⟩ => ⟨h2, k _ _ (Grow.refl _) ?_⟩
    show V.bl _ = V.bl _
    rw [isN_of h1]
  | _ => cases dx <;> cases e
theorem snd_notN : OpR X (compareOp .IsNot) (rD2 C (opD .notN)) := op_case fun dx dy d e => by
  cases dy with
  | non =>
    have e' : some (D.bl (!isNonD dx)) = some d := by rw [← e]; cases dx <;> rfl
    cases e'
    refine OpR.imp op_notN fun x y H Q ⟨ρ, h1, h2, k⟩ => ⟨h2, k _ _ (Grow.refl _) ?_⟩
    show V.bl _ = V.bl _
    rw [isN_of h1]
  | _ => cases dx <;> cases e
theorem snd_isB : OpR X (compareOp .Is) (rD2 C (opD .isB)) := op_case fun dx dy d e => by
  cases dx with
  | bl a =>
    cases dy with
    | bl b =>
      cases (Option.some.inj e : D.bl (decide (a = b)) = d)
      exact OpR.imp op_is_bl fun x y H Q ⟨ρ, h1, h2, k⟩ => ⟨a, b, h1, h2, k _ _ (Grow.refl _) rfl⟩
    | _ => cases e
  | _ => cases dy <;> cases e
theorem op_sound (hK : X.K = C.K) (hu : X.A.units + 65 < cLine) (o : Op2) : OpR X (opSem o) (rD2 C (opD o)) := by
  cases o with
  | add => exact snd_add hK
  | sub => exact snd_sub
  | mul => exact snd_mul hK
  | fdiv => exact snd_fdiv
  | mod => exact snd_mod
  | pow => exact snd_pow
  | eq => exact snd_eq hK (by omega)
  | ne => exact snd_ne hK (by omega)
  | lt => exact snd_lt hK (by omega)
  | le => exact snd_le
  | gt => exact snd_gt
  | ge => exact snd_ge
  | mem => exact snd_mem hK hu
  | nmem => exact snd_nmem hK hu
  | isN => exact snd_isN
  | notN => exact snd_notN
  | isB => exact snd_isB
end
end MC
namespace MC
open PySem PySem.Spec L2
section
variable {X : Cx} {C : Cn}
/-- a built-in's reading over values -/
def rDL (C : Cn) (f : List D → Option D) : List V → Hp → VK → Prop := fun xs H Q => ∃ ρ ds d, Reps C ρ H ds xs ∧ f ds = some d ∧ ∀ v H', Grow H H' → Rep C ρ H' d v → Q v H'
theorem call_case {f : Value} {g : List D → Option D}
    (h : ∀ (ds : List D) (d : D), g ds = some d → CallR X f (fun xs H Q => ∃ ρ, Reps C ρ H ds xs ∧ ∀ v H', Grow H H' → Rep C ρ H' d v → Q v H')) : CallR X f (rDL C g) := by
  intro pins s σ H xs us Q I rx q
  obtain ⟨ρ, ds, d, h1, e, k⟩ := q
  exact h ds d e pins s σ H xs us Q I rx ⟨ρ, h1, k⟩
theorem reps1 {ρ : Rho} {H : Hp} {d : D} {xs : List V} (h : Reps C ρ H [d] xs) : ∃ v, xs = [v] ∧ Rep C ρ H d v := by
  obtain ⟨v, r, rfl, h1, h2⟩ := h
  rw [show r = [] from h2]
  exact ⟨v, rfl, h1⟩
theorem reps2 {ρ : Rho} {H : Hp} {d e : D} {xs : List V} (h : Reps C ρ H [d, e] xs) : ∃ v w, xs = [v, w] ∧ Rep C ρ H d v ∧ Rep C ρ H e w := by
  obtain ⟨v, r, rfl, h1, h2⟩ := h
  obtain ⟨w, rfl, h3⟩ := reps1 h2
  exact ⟨v, w, rfl, h1, h3⟩
theorem asInts_len : ∀ {l : List D} {ns : List Int}, asInts l = some ns → ns.length = l.length
  | [], ns, e => by cases (Option.some.inj e : [] = ns); rfl
  | d :: l, ns, e => by
    cases d with
    | int i =>
      obtain ⟨ms, em, rfl⟩ := Option.map_eq_some_iff.mp (show (asInts l).map (i :: ·) = some ns from e)
      rw [List.length_cons, List.length_cons, asInts_len em]
    | _ => cases e
open PyProof.Rows in
theorem cr_sumT (hc : X.calm = true) : CallR X (.builtin "sum") (fun vs H Q => ∃ (a : Addr) (ns : List Int), vs = [V.ref a] ∧ SqT X.K H a (ns.map V.int) ∧ Q (.int ns.sum) H) := by
  intro pins s σ H vs us Q I r h
  obtain ⟨a, ns, rfl, hs, q⟩ := h
  obtain ⟨its, rv, hl, _⟩ := I.tuple hs
  rw [Vals.ref1 r]
  have hi := rv.ints
  obtain ⟨xs, hx⟩ := hi.allInts.items
  have hn : numsOf (intItems xs).toList = ns := by rw [← hx]; exact hi.numsOf
  rw [nums_intItems] at hn
  have hl' : s.heap.IsTuple a (intItems xs) := by rw [← hx]; exact hl
  refine PySem.W.ktm_sumG (I.ok.hd hc) hl' fun h' tk t' hk => ?_
  refine ⟨.int ns.sum, H, I.kept hk, ⟨t', ?_⟩, q⟩
  rw [preSum_eq, List.take_of_length_le (by simp), hn]
theorem maxI_mem : ∀ (a : Int) (l : List Int), maxI (a :: l) ∈ a :: l ∧ ∀ y ∈ a :: l, y ≤ maxI (a :: l)
  | a, [] => ⟨by simp [maxI], by simp [maxI]⟩
  | a, b :: l => by
    obtain ⟨h1, h2⟩ := maxI_mem b l
    have e : maxI (a :: b :: l) = max a (maxI (b :: l)) := rfl
    rw [e]
    refine ⟨?_, fun y hy => ?_⟩
    · by_cases h : a ≤ maxI (b :: l)
      · rw [Int.max_eq_right h]; exact List.mem_cons_of_mem _ h1
      · rw [Int.max_eq_left (by omega)]; exact List.mem_cons_self
    · rcases List.mem_cons.mp hy with rfl | hy
      · exact Int.le_max_left _ _
      · exact Int.le_trans (h2 y hy) (Int.le_max_right _ _)
theorem minI_mem : ∀ (a : Int) (l : List Int), minI (a :: l) ∈ a :: l ∧ ∀ y ∈ a :: l, minI (a :: l) ≤ y
  | a, [] => ⟨by simp [minI], by simp [minI]⟩
  | a, b :: l => by
    obtain ⟨h1, h2⟩ := minI_mem b l
    have e : minI (a :: b :: l) = min a (minI (b :: l)) := rfl
    rw [e]
    refine ⟨?_, fun y hy => ?_⟩
    · by_cases h : a ≤ minI (b :: l)
      · rw [Int.min_eq_left h]; exact List.mem_cons_self
      · rw [Int.min_eq_right (by omega)]; exact List.mem_cons_of_mem _ h1
    · rcases List.mem_cons.mp hy with rfl | hy
      · exact Int.min_le_left _ _
      · exact Int.le_trans (Int.min_le_right _ _) (h2 y hy)
theorem snd_len (hK : X.K = C.K) : CallR X (.builtin "len") (rDL C (prD .len)) := call_case fun ds d e => by
  match ds, e with
  | [.tup l], e =>
    cases (Option.some.inj e : D.int l.length = d)
    refine CallR.imp call_len fun xs H Q hh => ?_
    obtain ⟨ρ, hr, k⟩ := hh
    obtain ⟨v, rfl, a, vs, rfl, h1, r1⟩ := reps1 hr
    rw [hK]
    exact ⟨_, vs.length, rfl, .inr ⟨vs, h1, rfl⟩, k _ _ (Grow.refl _) (by rw [r1.len]; rfl)⟩
  | [.lst l], e =>
    cases (Option.some.inj e : D.int l.length = d)
    refine CallR.imp call_len fun xs H Q hh => ?_
    obtain ⟨ρ, hr, k⟩ := hh
    obtain ⟨v, rfl, a, vs, rfl, h1, r1⟩ := reps1 hr
    rw [hK]
    exact ⟨_, vs.length, rfl, .inl ⟨vs, FzL.sq h1, rfl⟩, k _ _ (Grow.refl _) (by rw [r1.len]; rfl)⟩
  | [.scr l], e =>
    cases (Option.some.inj e : D.int l.length = d)
    refine CallR.imp call_len fun xs H Q hh => ?_
    obtain ⟨ρ, hr, k⟩ := hh
    obtain ⟨v, rfl, a, rfl, h1⟩ := reps1 hr
    rw [hK]
    exact ⟨_, (l.map V.int).length, rfl, .inl ⟨_, h1.sq, rfl⟩, k _ _ (Grow.refl _) (by rw [List.length_map]; rfl)⟩
  | [.str x], e =>
    have e' : (if x.length ≤ sizeLine then some (D.int x.length) else none) = some d := e
    split at e'
    · rename_i hz
      cases e'
      refine CallR.imp call_len fun xs H Q hh => ?_
      obtain ⟨ρ, hr, k⟩ := hh
      obtain ⟨v, rfl, h1⟩ := reps1 hr
      rw [show v = .str x from h1]
      exact ⟨_, x.length, rfl, ⟨hz, rfl⟩, k _ _ (Grow.refl _) rfl⟩
    · cases e'
theorem snd_all (hK : X.K = C.K) (hc : X.calm = true) : CallR X (.builtin "all") (rDL C (prD .all)) := call_case fun ds d e => by
  match ds, e with
  | [.lst l], e =>
    obtain ⟨bs, eb, rfl⟩ := Option.map_eq_some_iff.mp (show (asBools l).map (fun bs => D.bl (bs.all id)) = some d from e)
    refine CallR.imp (cr_all hc) fun xs H Q hh => ?_
    obtain ⟨ρ, hr, k⟩ := hh
    obtain ⟨v, rfl, a, vs, rfl, h1, r1⟩ := reps1 hr
    rw [asBools_rep eb r1] at h1
    exact ⟨a, bs, rfl, FzL.sq h1, k _ _ (Grow.refl _) rfl⟩
theorem snd_any (hK : X.K = C.K) (hc : X.calm = true) : CallR X (.builtin "any") (rDL C (prD .any)) := call_case fun ds d e => by
  match ds, e with
  | [.lst l], e =>
    obtain ⟨bs, eb, rfl⟩ := Option.map_eq_some_iff.mp (show (asBools l).map (fun bs => D.bl (bs.any id)) = some d from e)
    refine CallR.imp (cr_any hc) fun xs H Q hh => ?_
    obtain ⟨ρ, hr, k⟩ := hh
    obtain ⟨v, rfl, a, vs, rfl, h1, r1⟩ := reps1 hr
    rw [asBools_rep eb r1] at h1
    exact ⟨a, bs, rfl, FzL.sq h1, k _ _ (Grow.refl _) rfl⟩
theorem snd_sum (hK : X.K = C.K) (hc : X.calm = true) : CallR X (.builtin "sum") (rDL C (prD .sum)) := call_case fun ds d e => by
  match ds, e with
  | [.lst l], e =>
    obtain ⟨bs, eb, rfl⟩ := Option.map_eq_some_iff.mp (show (asInts l).map (fun bs => D.int bs.sum) = some d from e)
    refine CallR.imp (cr_sum hc) fun xs H Q hh => ?_
    obtain ⟨ρ, hr, k⟩ := hh
    obtain ⟨v, rfl, a, vs, rfl, h1, r1⟩ := reps1 hr
    rw [asInts_rep eb r1] at h1
    exact ⟨a, bs, rfl, FzL.sq h1, k _ _ (Grow.refl _) rfl⟩
  | [.tup l], e =>
    obtain ⟨bs, eb, rfl⟩ := Option.map_eq_some_iff.mp (show (asInts l).map (fun bs => D.int bs.sum) = some d from e)
    refine CallR.imp (cr_sumT hc) fun xs H Q hh => ?_
    obtain ⟨ρ, hr, k⟩ := hh
    obtain ⟨v, rfl, a, vs, rfl, h1, r1⟩ := reps1 hr
    rw [asInts_rep eb r1] at h1
    rw [hK]
    exact ⟨a, bs, rfl, h1, k _ _ (Grow.refl _) rfl⟩
theorem snd_max (hK : X.K = C.K) (hc : X.calm = true) : CallR X (.builtin "max") (rDL C (prD .max)) := call_case fun ds d e => by
  match ds, e with
  | [.int i, .int j], e =>
    cases (Option.some.inj e : D.int (max i j) = d)
    refine CallR.imp (call_max2 hc) fun xs H Q hh => ?_
    obtain ⟨ρ, hr, k⟩ := hh
    obtain ⟨v, w, rfl, h1, h2⟩ := reps2 hr
    rw [show v = .int i from h1, show w = .int j from h2]
    refine ⟨i, j, rfl, k _ _ (Grow.refl _) ?_⟩
    show V.int _ = V.int _
    congr 1
    split <;> omega
  | [.lst l], e =>
    have e' : (match asInts l with
      | some (a :: r) => some (D.int (maxI (a :: r)))
      | _ => none) = some d := e
    split at e'
    · rename_i a r ea
      cases e'
      refine CallR.imp (cr_max hc) fun xs H Q hh => ?_
      obtain ⟨ρ, hr, k⟩ := hh
      obtain ⟨v, rfl, p, vs, rfl, h1, r1⟩ := reps1 hr
      rw [asInts_rep ea r1] at h1
      obtain ⟨m1, m2⟩ := maxI_mem a r
      refine ⟨p, a :: r, rfl, FzL.sq h1, by simp, fun m hm hb => k _ _ (Grow.refl _) ?_⟩
      show V.int m = V.int _
      congr 1
      have a1 := m2 m hm
      have a2 := hb _ m1
      omega
    · cases e'
theorem snd_min (hK : X.K = C.K) (hc : X.calm = true) : CallR X (.builtin "min") (rDL C (prD .min)) := call_case fun ds d e => by
  match ds, e with
  | [.int i, .int j], e =>
    cases (Option.some.inj e : D.int (min i j) = d)
    refine CallR.imp (call_min2 hc) fun xs H Q hh => ?_
    obtain ⟨ρ, hr, k⟩ := hh
    obtain ⟨v, w, rfl, h1, h2⟩ := reps2 hr
    rw [show v = .int i from h1, show w = .int j from h2]
    refine ⟨i, j, rfl, k _ _ (Grow.refl _) ?_⟩
    show V.int _ = V.int _
    congr 1
    split <;> omega
  | [.lst l], e =>
    have e' : (match asInts l with
      | some (a :: r) => some (D.int (minI (a :: r)))
      | _ => none) = some d := e
    split at e'
    · rename_i a r ea
      cases e'
      refine CallR.imp (cr_min hc) fun xs H Q hh => ?_
      obtain ⟨ρ, hr, k⟩ := hh
      obtain ⟨v, rfl, p, vs, rfl, h1, r1⟩ := reps1 hr
      rw [asInts_rep ea r1] at h1
      obtain ⟨m1, m2⟩ := minI_mem a r
      refine ⟨p, a :: r, rfl, FzL.sq h1, by simp, fun m hm hb => k _ _ (Grow.refl _) ?_⟩
      show V.int m = V.int _
      congr 1
      have a1 := m2 m hm
      have a2 := hb _ m1
      omega
    · cases e'
theorem snd_tuple (hK : X.K = C.K) : CallR X (.type "tuple") (rDL C (prD .tuple)) := call_case fun ds d e => by
  match ds, e with
  | [.lst l], e =>
    cases (Option.some.inj e : D.tup l = d)
    refine CallR.imp call_tuple_of fun xs H Q hh => ?_
    obtain ⟨ρ, hr, k⟩ := hh
    obtain ⟨v, rfl, p, vs, rfl, h1, r1⟩ := reps1 hr
    exact ⟨p, vs, rfl, .inl ⟨FzL.sq h1, fun q hq => k _ _ (Grow.upd hq) ⟨q, vs, rfl, SqT.of upd_same, r1.grow (Grow.upd hq)⟩⟩⟩
  | [.tup l], e =>
    cases (Option.some.inj e : D.tup l = d)
    refine CallR.imp call_tuple_of fun xs H Q hh => ?_
    obtain ⟨ρ, hr, k⟩ := hh
    obtain ⟨v, rfl, p, vs, rfl, h1, r1⟩ := reps1 hr
    rw [hK]
    exact ⟨p, vs, rfl, .inr ⟨h1, k _ _ (Grow.refl _) ⟨p, vs, rfl, h1, r1⟩⟩⟩
theorem snd_list (hK : X.K = C.K) : CallR X (.type "list") (rDL C (prD .list)) := call_case fun ds d e => by
  match ds, e with
  | [.lst l], e =>
    cases (Option.some.inj e : D.lst l = d)
    refine CallR.imp (CallR.frz call_list_of) fun xs H Q hh => ?_
    obtain ⟨ρ, hr, k⟩ := hh
    obtain ⟨v, rfl, p, vs, rfl, h1, r1⟩ := reps1 hr
    exact ⟨p, vs, rfl, .inl (FzL.sq h1), fun q hq => FzTo.new fun o => k _ _ (Grow.upd hq) ⟨q, vs, rfl, fz_at, r1.grow (Grow.upd hq)⟩⟩
  | [.tup l], e =>
    cases (Option.some.inj e : D.lst l = d)
    refine CallR.imp (CallR.frz call_list_of) fun xs H Q hh => ?_
    obtain ⟨ρ, hr, k⟩ := hh
    obtain ⟨v, rfl, p, vs, rfl, h1, r1⟩ := reps1 hr
    rw [hK]
    exact ⟨p, vs, rfl, .inr h1, fun q hq => FzTo.new fun o => k _ _ (Grow.upd hq) ⟨q, vs, rfl, fz_at, r1.grow (Grow.upd hq)⟩⟩
theorem snd_sorted : CallR X (.builtin "sorted") (rDL C (prD .sorted)) := call_case fun ds d e => by cases e
/-! ### isinstance -/
def tyName : Ty → String
  | .int => "int"
  | .bool => "bool"
  | .tuple => "tuple"
  | .str => "str"
theorem rep_ty {ρ : Rho} {H : Hp} {d : D} {v : V} {t : Ty} {b : Bool} (h : Rep C ρ H d v) (e : isTy d t = some b) : ∃ tv : String, TyX C.K H v (.type tv) ∧ kitB tv (tyName t) = some b := by
  cases d with
  | non =>
    rw [show v = .non from h]
    refine ⟨_, .base .non, ?_⟩
    cases t <;> (cases (Option.some.inj e : false = b); decide +kernel)
  | bl c =>
    rw [show v = .bl c from h]
    refine ⟨_, .base (.bl c), ?_⟩
    cases t <;> (cases e; decide +kernel)
  | int i =>
    rw [show v = .int i from h]
    refine ⟨_, .base (.int i), ?_⟩
    cases t <;> (cases e; decide +kernel)
  | str x =>
    rw [show v = .str x from h]
    refine ⟨_, .base (.str x), ?_⟩
    cases t <;> (cases e; decide +kernel)
  | tup l =>
    obtain ⟨a, vs, rfl, q, _⟩ := h
    refine ⟨"tuple", ?_, ?_⟩
    · rcases q with (q | ⟨o, q⟩) | ⟨o, its, n, q, c, _⟩
      · exact .base (.tup q)
      · exact .fTuple q
      · exact .kTuple q c
    · cases t <;> (cases e; decide +kernel)
  | lst l =>
    obtain ⟨a, vs, rfl, ⟨o, q⟩, _⟩ := h
    refine ⟨"list", .base (.frz q), ?_⟩
    cases t <;> (cases e; decide +kernel)
  | _ => cases t <;> cases e
theorem snd_isi (hK : X.K = C.K) (t : Ty) : CallR X (.builtin "isinstance") (fun xs H Q => ∃ ρ d v b, xs = [v, .ty (tyName t)] ∧ Rep C ρ H d v ∧ isTy d t = some b ∧ Q (.bl b) H) := by
  refine CallR.imp call_isi fun xs H Q hh => ?_
  obtain ⟨ρ, d, v, b, rfl, h1, e, q⟩ := hh
  obtain ⟨tv, h2, h3⟩ := rep_ty h1 e
  rw [hK]
  exact ⟨v, _, _, _, b, rfl, .ty _, h2, kit_ty h3, q⟩
/-! ### subscripts -/
theorem atI_rep {ρ : Rho} {H : Hp} {l : List D} {vs : List V} {i : Int} {d : D} (r : Reps C ρ H l vs) (e : atI l i = some d) : ∃ v, atI vs i = some v ∧ Rep C ρ H d v := by
  unfold atI at e ⊢
  rw [r.len]
  cases q : ixN l.length i with
  | none => rw [q] at e; cases e
  | some j =>
    rw [q] at e
    obtain ⟨v, h1, h2⟩ := r.get (show l[j]? = some d from e)
    exact ⟨v, h1, h2⟩
theorem ix_any : IxR X (rIx X.K) := ix_seq
theorem IxR.imp {r r' : R2} (h : IxR X r) (k : ∀ x y H Q, r' x y H Q → r x y H Q) : IxR X r' := fun value slice pins s σ H x y v u Q I rx ry hw hs => h value slice pins s σ H x y v u Q I rx ry (k _ _ _ _ hw) hs
theorem snd_ix (hK : X.K = C.K) : IxR X (rD2 C ixOf) := by
  refine IxR.imp ix_seq fun x y H Q hh => ?_
  obtain ⟨ρ, dx, dy, d, h1, h2, e, k⟩ := hh
  rw [hK]
  match dx, dy, e with
  | .tup l, .int i, e =>
    obtain ⟨a, vs, rfl, q, r⟩ := h1
    obtain ⟨v, e1, e2⟩ := atI_rep r e
    exact .inr (.inl ⟨a, vs, i, v, rfl, h2, q, e1, k _ _ (Grow.refl _) e2⟩)
  | .lst l, .int i, e =>
    obtain ⟨a, vs, rfl, q, r⟩ := h1
    obtain ⟨v, e1, e2⟩ := atI_rep r e
    exact .inl ⟨a, vs, i, v, rfl, h2, FzL.sq q, e1, k _ _ (Grow.refl _) e2⟩
  | .scr l, .int i, e =>
    obtain ⟨a, rfl, q⟩ := h1
    have e' : (atI l i).map D.int = some d := e
    obtain ⟨n, e1, rfl⟩ := Option.map_eq_some_iff.mp e'
    have e2 : atI (l.map V.int) i = some (V.int n) := by
      unfold atI at e1 ⊢
      rw [List.length_map]
      cases z : ixN l.length i with
      | none => rw [z] at e1; cases e1
      | some j =>
        rw [z] at e1
        have e1 : l[j]? = some n := e1
        show (l.map V.int)[j]? = _
        rw [List.getElem?_map, e1]
        rfl
    exact .inl ⟨a, _, i, _, rfl, h2, q.sq, e2, k _ _ (Grow.refl _) rfl⟩
  | .str z, .int i, e =>
    have e' : (if z.length ≤ sizeLine then (atI z.cps.toList i).map (fun c => D.str ⟨#[c]⟩) else none) = some d := e
    split at e'
    · rename_i hz
      obtain ⟨c, e1, rfl⟩ := Option.map_eq_some_iff.mp e'
      exact .inr (.inr ⟨z, i, c, h1, h2, hz, e1, k _ _ (Grow.refl _) rfl⟩)
    · cases e'
theorem cut_rep {ρ : Rho} {H : Hp} {l : List D} {vs : List V} (lo hi : Option Int) (r : Reps C ρ H l vs) : Reps C ρ H (cutL l lo hi) (cutV vs lo hi) := by
  unfold cutL cutV
  rw [r.len]
  exact (r.drop _).take _
theorem SlR.imp {r r' : V → Option Int → Option Int → Hp → VK → Prop} (h : SlR X r) (k : ∀ x lo hi H Q, r' x lo hi H Q → r x lo hi H Q) : SlR X r' := by
  intro pins s σ H x v vl vu lo hi sl Q I rx hs pl pu hw
  exact h pins s σ H x v vl vu lo hi sl Q I rx hs pl pu (k _ _ _ _ _ hw)
def rDS (C : Cn) : V → Option Int → Option Int → Hp → VK → Prop := fun x lo hi H Q => ∃ ρ dx d, Rep C ρ H dx x ∧ slOf dx lo hi = some d ∧ ∀ v H', Grow H H' → Rep C ρ H' d v → Q v H'
theorem sl_frz : SlR X (fun x lo hi H Q => rSlL X.K x lo hi H fun v H1 => FzTo v H1 Q) := by
  intro pins s σ H x v vl vu lo hi sl Q I rx hs pl pu hw
  obtain ⟨T, id, h1, h2, h3⟩ := sl_list pins s σ H x v vl vu lo hi sl (fun v H1 => FzTo v H1 Q) I rx hs pl pu hw
  exact ⟨T, id, h1, h2, thn h3 fun _ _ q => EP.frz q⟩
theorem snd_sl (hK : X.K = C.K) : SlR X (rDS C) := by
  refine SlR.imp (SlR.or sl_frz sl_tupA) fun x lo hi H Q hh => ?_
  obtain ⟨ρ, dx, d, h1, e, k⟩ := hh
  rw [hK]
  match dx, e with
  | .tup l, e =>
    cases (Option.some.inj e : D.tup (cutL l lo hi) = d)
    obtain ⟨a, vs, rfl, q, r⟩ := h1
    refine .inr ⟨a, vs, rfl, q, fun hw => ?_, fun hw p hp => ?_⟩
    · refine k _ _ (Grow.refl _) ⟨a, vs, rfl, q, ?_⟩
      have := cut_rep lo hi r
      have e2 : cutV vs lo hi = vs := by
        unfold cutV
        rw [hw.1, hw.2]
        simp
      rw [e2] at this
      exact this
    · exact k _ _ (Grow.upd hp) ⟨p, _, rfl, SqT.of upd_same, (cut_rep lo hi r).grow (Grow.upd hp)⟩
  | .lst l, e =>
    cases (Option.some.inj e : D.lst (cutL l lo hi) = d)
    obtain ⟨a, vs, rfl, q, r⟩ := h1
    exact .inl ⟨a, vs, rfl, FzL.sq q, fun p hp => FzTo.new fun o => k _ _ (Grow.upd hp) ⟨p, _, rfl, fz_at, (cut_rep lo hi r).grow (Grow.upd hp)⟩⟩
/-! ### truth -/
theorem snd_tru {ρ : Rho} {H : Hp} {d : D} {v : V} {b : Bool} (h : Rep C ρ H d v) (e : truth d = some b) : TruV C.K v H b := by
  match d, e with
  | .non, e =>
    cases (Option.some.inj e : false = b)
    rw [show v = .non from h]
    rfl
  | .bl c, e =>
    have e2 : c = b := Option.some.inj e
    subst e2
    rw [show v = .bl c from h]
    rfl
  | .int i, e =>
    cases (Option.some.inj e : (i != 0) = b)
    rw [show v = .int i from h]
    rfl
  | .str x, e =>
    have e' : (if x.length ≤ sizeLine then some ((x.length : Int) != 0) else none) = some b := e
    split at e'
    · rename_i hz
      cases e'
      rw [show v = .str x from h]
      exact ⟨hz, rfl⟩
    · cases e'
  | .tup l, e =>
    cases (Option.some.inj e : (!l.isEmpty) = b)
    obtain ⟨a, vs, rfl, q, r⟩ := h
    refine .inr (.inl ⟨vs, q, ?_⟩)
    have := r.len
    cases l <;> cases vs <;> simp_all
  | .lst l, e =>
    cases (Option.some.inj e : (!l.isEmpty) = b)
    obtain ⟨a, vs, rfl, q, r⟩ := h
    refine .inl ⟨vs, FzL.sq q, ?_⟩
    have := r.len
    cases l <;> cases vs <;> simp_all
  | .scr l, e =>
    cases (Option.some.inj e : (!l.isEmpty) = b)
    obtain ⟨a, rfl, q⟩ := h
    refine .inl ⟨_, q.sq, ?_⟩
    cases l <;> rfl
end
end MC
namespace MC
open PySem PySem.Spec L2
/-! ### enumerate(tuple) -/
open PySem.AutoSeq1 in
theorem meets_enumT (l : Addr) (items : Array Value) (n : Nat) (dct : Option Addr) (sl : Array (Option Value)) :
    Meets (Builtin.«enumerate.__new__» ⟨[.type "enumerate", .ref l], []⟩) (fun _ R s => s.heap.get? l = some { cls := .type "tuple", dict := dct, data := .seq items n, slots := sl } ∧
      R (.ok (.ret (.ref (s.heap.push { cls := .type "tuple_iterator", data := .fields #[.ref l, .int 0 0] }).objs.size)))
        { s with heap := (s.heap.push { cls := .type "tuple_iterator", data := .fields #[.ref l, .int 0 0] }).push { cls := .type "enumerate", data := .fields #[.none, .bool false, .ref s.heap.objs.size, rawInt 0, .none, .none] } }) :=
  .of_wp fun prog w A R s h => by
    obtain ⟨hp, g, d, tk, os⟩ := s; obtain ⟨hl, h⟩ := h
    have hsub := sub_enumerate
    have hL : Heap.IsTuple (Shared.heap ⟨hp, g, d, tk, os⟩) l items := ⟨_, hl, rfl, n, rfl⟩
    wp_walk using wpAny_loadPart' hl
    refine wpAny_stack_any fun st => wpAny_pure ?_
    split
    · rename_i c _ _ _ _ _
      cases (c == Value.type "enumerate")
      · wp_walk using wpAny_loadPart' hl, wpAny_pyIter_tuple hL
        exact ⟨_, rfl, h⟩
      · wp_walk using wpAny_loadPart' hl, wpAny_pyIter_tuple hL
        exact ⟨_, rfl, h⟩
    · wp_walk using wpAny_loadPart' hl, wpAny_pyIter_tuple hL
      exact ⟨_, rfl, h⟩
section
variable {prog : Program} {w : World} {A : Around} {E : Value → Shared → Prop} {s : Shared}
theorem call_enumT {l : Addr} {items : Array Value} {Q : Value → Shared → Prop} (hL : s.heap.IsTuple l items)
    (h : ∀ h', IsEnum h' (s.heap.objs.size + 1) s.heap.objs.size 0 .none → h'.IsTupleIter s.heap.objs.size l 0 → h'.objs.size = s.heap.objs.size + 2 →
      (∀ b o, s.heap.get? b = some o → h'.get? b = some o) → Q (.ref (s.heap.objs.size + 1)) { s with heap := h' }) :
    wpAny (model prog w) A (call (.type "enumerate") [.ref l]) Q E s := by
  obtain ⟨⟨c, dct, dt, sl⟩, hl, hc, n, hd⟩ := hL
  replace hc : c = .type "tuple" := hc
  replace hd : dt = .seq items n := hd
  subst hc hd
  refine callType_new F.called_enumerate (by decide) (F.typeCall_enumerate_1 _) (F.newCall_enumerate_1 _) (fun obj => F.args_object_init_2 obj _) F.entry_enumerate_new
    (meets_enumT l items n dct sl) ⟨hl, ?_⟩
  have hz : (s.heap.push { cls := .type "tuple_iterator", data := .fields #[.ref l, .int 0 0] }).objs.size = s.heap.objs.size + 1 := Heap.size_push ..
  show _ ∧ _
  rw [hz]
  have he : IsEnum ((s.heap.push { cls := .type "tuple_iterator", data := .fields #[.ref l, .int 0 0] }).push
      { cls := .type "enumerate", data := .fields #[.none, .bool false, .ref s.heap.objs.size, rawInt 0, .none, .none] }) (s.heap.objs.size + 1) s.heap.objs.size 0 .none := by
    have := Heap.get?_push_size (s.heap.push { cls := .type "tuple_iterator", data := .fields #[.ref l, .int 0 0] })
      (o := { cls := .type "enumerate", data := .fields #[.none, .bool false, .ref s.heap.objs.size, rawInt 0, .none, .none] }) rfl
    rw [hz] at this; exact this
  refine ⟨⟨_, he, rfl⟩, h _ he ⟨_, Heap.get?_push_of_some _ (Heap.get?_push_size _ rfl), rfl, rfl⟩ (by rw [Heap.size_push, hz]) fun b o x => Heap.get?_push_of_some _ (Heap.get?_push_of_some _ x)⟩
end
def IteT (K : PySem.W.Frag) (a : Addr) : L2.It :=
  ⟨fun i H => ∃ (xs : List V) (x : V), SqT K H a xs ∧ xs[i]? = some x, fun i H v H' => ∃ T x, v = .ref T ∧ H T = none ∧ H' = upd H T (.tup [.int (i : Nat), x]) ∧ ∀ xs, SqT K H a xs → xs[i]? = some x, fun i H => ∃ xs : List V, SqT K H a xs ∧ xs.length ≤ i⟩
open PyProof.Rows in
theorem turn_enumT {P : Program} {w : World} {K : PySem.W.Frag} {elts : List Expr} {kk : Nat} {tpos : Pos} (a e it : Addr) :
    Turn P w K (.Tuple elts kk tpos) (IteT K a) [e, it] e (fun i h => (∃ old, IsEnum h e it ((i : Nat) : Int) old) ∧ h.IsTupleIter it a i ∧ e ≠ it) where
  mem := by simp
  obj := fun i h st b hb => by
    obtain ⟨⟨old, he⟩, ⟨o, ho, hc, hd⟩, _⟩ := st
    have e' : b = e ∨ b = it := by simpa using hb
    rcases e' with z | z
    · rw [z]; exact ⟨_, he, fun v q => nomatch q⟩
    · rw [z]; exact ⟨o, ho, fun v q => by rw [hd] at q; cases q⟩
  keep := fun i h h' st k => let ⟨⟨old, he⟩, hi, hne⟩ := st; ⟨⟨old, k e (by simp) _ he⟩, hi.at fun o q => k it (by simp) o q, hne⟩
  item := by
    intro X hP hw hK hc i pins s σ H E I hf st hg
    subst hP hw hK
    obtain ⟨⟨old, he⟩, hit, hne⟩ := st
    obtain ⟨xs, x, hq, hx⟩ := hg
    obtain ⟨its, rv, p, hz⟩ := I.tuple hq
    obtain ⟨u, hu, ru⟩ := rv.get hx
    have hel : e < s.heap.objs.size := Heap.lt_size he
    have hil : it < s.heap.objs.size := by obtain ⟨_, q, _⟩ := hit; exact Heap.lt_size q
    have hii : i < its.toArray.size := (Array.getElem?_eq_some_iff.mp (show its.toArray[i]? = some u by simpa using hu)).1
    have hta : s.heap.IsTuple a its.toArray := p
    have hai : a ≠ it := fun z => by
      obtain ⟨o, ho, _, hd⟩ := hit
      obtain ⟨o2, ho2, _, n, hd2⟩ := hta
      rw [z, ho] at ho2
      cases ho2
      rw [hd] at hd2
      cases hd2
    have hae : a ≠ e := fun z => by
      obtain ⟨o2, ho2, _, n, hd2⟩ := hta
      rw [z] at ho2
      have := ho2.symm.trans he
      cases this
      cases hd2
    refine wpAny_pyNext_enum_itemD (Draws.tuple (A := X.A.in1) (I.ok.hd hc) it a hai its.toArray) he ⟨hit, hta⟩ hii hne (by simp [hne, Ne.symm hae]) fun u' h' tk hP ho st' hT hsz hk => ?_
    obtain ⟨hit', _⟩ := st'
    have eu : u' = u := by
      have h1 : its.toArray[i]? = some u' := hP
      have h2 : its.toArray[i]? = some u := by simpa using hu
      exact Option.some.inj (h1.symm.trans h2)
    subst eu
    refine ⟨_, rfl, wpAny_letOwnedTupleGo_enum (s := { s with heap := h', toks := tk + 1 }) ho fun h'' he' sb => ?_⟩
    have hT2 : h''.get? s.heap.objs.size = some { cls := .type "tuple", data := .seq #[.int i tk, u'] } := (sb.2 _ (Nat.ne_of_gt hel)).trans hT
    have new : ObjOk X.prog X.w (upd H s.heap.objs.size (.tup [.int (i : Nat), x])) h'' s.heap.objs.size (.tup [.int (i : Nat), x]) :=
      ⟨by show 2 ≤ sizeLine; decide, [.int i tk, u'], .cons ⟨_, rfl⟩ (.cons ru .nil), ⟨_, hT2, rfl, _, rfl⟩⟩
    have I1 : L2.Inv X pins σ (upd H s.heap.objs.size (.tup [.int (i : Nat), x])) { s with heap := h'', toks := tk + 1 } :=
      I.turnedNew (ch := [e, it]) (fun b ob hb q => (sb.2 b (fun z => hb (by simp [z]))).trans (hk b ob (fun z => hb (by simp [z])) (fun z => hb (by simp [z])) q)) hf (Nat.le_refl _) new
    refine ⟨.ref s.heap.objs.size, _, I1, rfl, ⟨_, x, rfl, I.hok.fresh (Nat.le_refl _), rfl, fun ys hy => by rw [I.tuple_inj hy hq]; exact hx⟩, ⟨⟨u', ?_⟩, hit'.at fun o q => (sb.2 it (Ne.symm hne)).trans q, hne⟩, fun b hb => ?_⟩
    · have e1 : ((i + 1 : Nat) : Int) = (i : Int) + 1 := by omega
      rw [e1]; exact he'
    · have hb' : b < s.heap.objs.size := by
        have e' : b = e ∨ b = it := by simpa using hb
        rcases e' with z | z
        · rw [z]; exact hel
        · rw [z]; exact hil
      rw [upd_ne (Nat.ne_of_lt hb')]
      exact (hf b hb).1
  done := by
    intro X hP hw hK hc i pins s σ H E I hf st hg
    subst hP hw hK
    obtain ⟨⟨old, he⟩, hit, hne⟩ := st
    obtain ⟨xs, hq, hx⟩ := hg
    obtain ⟨its, rv, p, hz⟩ := I.tuple hq
    obtain ⟨f0, f1, f2, f3, f4, f5⟩ := hf it (by simp)
    have hl := rv.length
    have hta : s.heap.IsTuple a its.toArray := p
    have hT : s.TypeIs (.ref e) "enumerate" := ⟨_, he, rfl⟩
    unfold pyNext
    refine wpAny_bind (wpAny_attempt (wpAny_callSpecial?_slot (name := Str.ofString "__next__") hT F.slot_enumerate_next
      (wpAny_call_entry F.slot_enumerate_next hT F.entry_enumerate_next ?_ (F.args_enumerate_next_1 _))))
    show wpAny _ _ (field (.ref e) 2 >>= _) _ _ _
    refine wpAny_bind (wpAny_field he rfl (x := .ref it) rfl ?_)
    refine wpAny_bind (wpAny_nextOf_tuple_end (I.ok.hd hc) hit hta (by simp; omega) fun h' x he' hx' => ?_)
    obtain ⟨o, ho, hc2⟩ := hx'
    refine wpAny_bind (wpAny_isInstance (T := "StopIteration") (b := true) ⟨o, ho, hc2⟩ isSubtype_stop ?_)
    exact wpAny_pure ⟨rfl, I.turned (t' := s.toks) (fun b o hb q => he' b o hb q) f0 f1 f3 f4 f5⟩
  self := fun A i s Q E st h => let ⟨⟨_, he⟩, _⟩ := st; wpAny_pyIter_enum he h
end MC
namespace MC
open PySem PySem.Spec L2

theorem bind_some {α β : Type} {m : M α} {f : α → M β} {g g' : G} {r : R β} (h : M.bind m f g = some (r, g')) : (∃ c, m g = some (.ex c, g') ∧ r = .ex c) ∨ ∃ a g1, m g = some (.ok a, g1) ∧ f a g1 = some (r, g') := by
  unfold M.bind at h
  cases e : m g with
  | none => rw [e] at h; cases h
  | some p =>
    obtain ⟨r1, g1⟩ := p
    rw [e] at h
    cases r1 with
    | ex c =>
      have h2 : some ((.ex c : R β), g1) = some (r, g') := h
      cases h2
      exact .inl ⟨c, rfl, rfl⟩
    | ok a => exact .inr ⟨a, g1, rfl, h⟩
theorem opt_some {α : Type} {o : Option α} {g g' : G} {r : R α} (h : M.opt o g = some (r, g')) : ∃ a, o = some a ∧ r = .ok a ∧ g' = g := by
  cases o with
  | none => cases h
  | some a =>
    have h2 : some ((.ok a : R α), g) = some (r, g') := h
    cases h2
    exact ⟨a, rfl, rfl, rfl⟩
theorem pure_some {α : Type} {a : α} {g g' : G} {r : R α} (h : M.pure a g = some (r, g')) : r = .ok a ∧ g' = g := by
  have h2 : some ((.ok a : R α), g) = some (r, g') := h
  cases h2
  exact ⟨rfl, rfl⟩

/-! ### the changing objects -/
def StoAt (H : Hp) : GO → Addr × Addr → Prop
  | .town c r, p => H p.1 = some (.dK [(.inr "count", .int c), (.inr "rests", .ref p.2)]) ∧ H p.2 = some (.dK (r.map fun q => (.inl q.1, .int q.2)))
structure Sto (ρ : Rho) (g : G) (H : Hp) : Prop where
  len : g.length = ρ.length
  at_ : ∀ (n : Nat) (o : GO) (p : Addr × Addr), g[n]? = some o → ρ[n]? = some p → StoAt H o p
  sep : (ρ.flatMap fun p => [p.1, p.2]).Nodup
theorem StoAt.one {H : Hp} {o : GO} {p : Addr × Addr} (h : StoAt H o p) : (∃ kvs, H p.1 = some (.dK kvs)) ∧ ∃ kvs, H p.2 = some (.dK kvs) := by
  cases o with
  | town c r => exact ⟨⟨_, h.1⟩, ⟨_, h.2⟩⟩
theorem Sto.rok {ρ : Rho} {g : G} {H : Hp} (s : Sto ρ g H) : RhoOk ρ H := fun b ⟨p, hp, e⟩ => by
  obtain ⟨n, hn⟩ := List.mem_iff_getElem?.mp hp
  have hl : n < g.length := by
    rw [s.len]
    exact (List.getElem?_eq_some_iff.mp hn).1
  have := (s.at_ n g[n] p (List.getElem?_eq_getElem hl) hn).one
  rcases e with rfl | rfl
  · exact this.1
  · exact this.2
theorem Sto.grow {ρ : Rho} {g : G} {H H' : Hp} (s : Sto ρ g H) (k : Grow H H') : Sto ρ g H' := ⟨s.len, fun n o p h1 h2 => by
  have := s.at_ n o p h1 h2
  cases o with
  | town c r => exact ⟨k _ _ this.1, k _ _ this.2⟩, s.sep⟩
/-- .. where all but these stay -/
theorem Sto.same {ρ : Rho} {g : G} {H H' : Hp} (s : Sto ρ g H) (k : ∀ b, inRho ρ b → H' b = H b) : Sto ρ g H' := ⟨s.len, fun n o p h1 h2 => by
  have := s.at_ n o p h1 h2
  have m := List.mem_of_getElem? h2
  cases o with
  | town c r => exact ⟨(k _ ⟨p, m, .inl rfl⟩).trans this.1, (k _ ⟨p, m, .inr rfl⟩).trans this.2⟩, s.sep⟩

/-! ### a def's frame -/
def SlR (C : Cn) (ρ : Rho) (H : Hp) : Sl → Option V → Prop
  | .un, _ => True
  | .imm d, ov => ∃ v, ov = some v ∧ Rep C ρ H d v
  | .ml l, ov => ∃ a vs, ov = some (.ref a) ∧ H a = some (.lst vs) ∧ Reps C ρ H l vs
  | .md _ _, _ => False
/-- what the slot owns -/
def own : Sl → Option V → Option Addr
  | .ml _, some (.ref a) => some a
  | _, _ => none
structure Fm (C : Cn) (H0 : Hp) (ρ0 : Rho) (σ : List Sl) (σV : L2.St) (ρ : Rho) (g : G) (H : Hp) : Prop where
  len : σ.length = σV.length
  rep : ∀ (i : Nat) s ov, σ[i]? = some s → σV[i]? = some ov → SlR C ρ H s ov
  sep : ∀ (i j : Nat) s t ov ow a, σ[i]? = some s → σV[i]? = some ov → own s ov = some a → σ[j]? = some t → σV[j]? = some ow → own t ow = some a → i = j
  new : ∀ (i : Nat) s ov a, σ[i]? = some s → σV[i]? = some ov → own s ov = some a → H0 a = none ∧ ¬ inRho ρ a
  ext : Ext ρ0 H0 H
  pre : ρ0 <+: ρ
  nrh : ∀ b, inRho ρ b → inRho ρ0 b ∨ H0 b = none
  sto : Sto ρ g H
section
variable {C : Cn} {H0 : Hp} {ρ0 : Rho} {σ : List Sl} {σV : L2.St} {ρ ρ' : Rho} {g g' : G} {H H' : Hp}
theorem Fm.rok (F : Fm C H0 ρ0 σ σV ρ g H) : RhoOk ρ H := F.sto.rok
theorem SlR.own_at {s : Sl} {ov : Option V} {a : Addr} (h : SlR C ρ H s ov) (e : own s ov = some a) : ∃ vs, H a = some (.lst vs) := by
  cases s with
  | ml l =>
    obtain ⟨b, vs, rfl, hb, _⟩ := h
    cases (Option.some.inj e : b = a)
    exact ⟨vs, hb⟩
  | _ => cases ov <;> cases e
theorem SlR.to {s : Sl} {ov : Option V} (h : SlR C ρ H s ov) (k : Keeps C.K H H') (pre : ρ <+: ρ') (o : ∀ a vs, own s ov = some a → H a = some (.lst vs) → H' a = some (.lst vs)) : SlR C ρ' H' s ov := by
  cases s with
  | un => trivial
  | imm d =>
    obtain ⟨v, e, r⟩ := h
    exact ⟨v, e, r.to k pre⟩
  | ml l =>
    obtain ⟨a, vs, rfl, e, r⟩ := h
    exact ⟨a, vs, rfl, o a vs rfl e, r.to k pre⟩
  | md _ _ => exact h.elim
theorem Ext.trans {ρ ρ' : Rho} {H H1 H2 : Hp} (a : Ext ρ H H1) (b : Ext ρ' H1 H2) (n : ∀ b, inRho ρ' b → inRho ρ b ∨ H b = none) : Ext ρ H H2 := by
  have no : ∀ c u, H c = some u → ¬ inRho ρ c → ¬ inRho ρ' c := fun c u h nr z => by
    rcases n c z with z | z
    · exact nr z
    · rw [z] at h
      cases h
  refine ⟨fun c u h nr nt => b.at_ c u (a.at_ c u h nr nt) (no c u h nr) nt, fun c u h nr t => ?_⟩
  obtain ⟨u1, h1, t1⟩ := a.tbl c u h nr t
  exact b.tbl c u1 h1 (no c u h nr) t1
/-- the heap has grown -/
theorem Fm.grow (F : Fm C H0 ρ0 σ σV ρ g H) (k : Grow H H') : Fm C H0 ρ0 σ σV ρ g H' where
  len := F.len
  rep := fun i s ov h1 h2 => (F.rep i s ov h1 h2).to k.keeps (List.prefix_refl _) fun a vs _ e => k _ _ e
  sep := F.sep
  new := F.new
  ext := F.ext.trans (Ext.of ρ k) F.nrh
  pre := F.pre
  nrh := F.nrh
  sto := F.sto.grow k
/-- what an expression may do to the heap -/
structure Stp (ρ : Rho) (H : Hp) (ρ' : Rho) (H' : Hp) : Prop where
  ext : Ext ρ H H'
  pre : ρ <+: ρ'
  new : ∀ b, inRho ρ' b → inRho ρ b ∨ H b = none
theorem Stp.refl (ρ : Rho) (H : Hp) : Stp ρ H ρ H := ⟨.refl _ _, List.prefix_refl _, fun _ h => .inl h⟩
theorem Stp.of (ρ : Rho) {H H' : Hp} (k : Grow H H') : Stp ρ H ρ H' := ⟨.of _ k, List.prefix_refl _, fun _ h => .inl h⟩
theorem Stp.keeps {K : PySem.W.Frag} {ρ ρ' : Rho} {H H' : Hp} (ok : RhoOk ρ H) (s : Stp ρ H ρ' H') : Keeps K H H' := s.ext.keeps ok
theorem Stp.trans {ρ ρ1 ρ2 : Rho} {H H1 H2 : Hp} (a : Stp ρ H ρ1 H1) (b : Stp ρ1 H1 ρ2 H2) : Stp ρ H ρ2 H2 := by
  refine ⟨a.ext.trans b.ext a.new, a.pre.trans b.pre, fun c z => ?_⟩
  rcases b.new c z with z | z
  · exact a.new c z
  · cases q : H c with
    | none => exact .inr rfl
    | some u =>
      by_cases hr : inRho ρ c
      · exact .inl hr
      · by_cases ht : isTbl u
        · obtain ⟨u', h', _⟩ := a.ext.tbl c u q hr ht
          rw [z] at h'
          cases h'
        · have := a.ext.at_ c u q hr ht
          rw [z] at this
          cases this
/-- behind a call -/
theorem Fm.step (F : Fm C H0 ρ0 σ σV ρ g H) (st : Stp ρ H ρ' H') (s : Sto ρ' g' H') : Fm C H0 ρ0 σ σV ρ' g' H' where
  len := F.len
  rep := fun i s ov h1 h2 => (F.rep i s ov h1 h2).to (st.keeps F.rok) st.pre fun a vs ho q => st.ext.at_ a _ q (F.new i s ov a h1 h2 ho).2 (fun z => z)
  sep := F.sep
  new := fun i s ov a h1 h2 h3 => by
    obtain ⟨z1, z2⟩ := F.new i s ov a h1 h2 h3
    refine ⟨z1, fun z => ?_⟩
    rcases st.new a z with z | z
    · exact z2 z
    · obtain ⟨vs, q⟩ := (F.rep i s ov h1 h2).own_at h3
      rw [z] at q
      cases q
  ext := F.ext.trans st.ext F.nrh
  pre := F.pre.trans st.pre
  nrh := fun b z => by
    rcases st.new b z with z | z
    · exact F.nrh b z
    · cases q : H0 b with
      | none => exact .inr rfl
      | some u =>
        by_cases hr : inRho ρ0 b
        · exact .inl hr
        · by_cases ht : isTbl u
          · obtain ⟨u', h', _⟩ := F.ext.tbl b u q hr ht
            rw [z] at h'
            cases h'
          · have := F.ext.at_ b u q hr ht
            rw [z] at this
            cases this
  sto := s
theorem Fm.get (F : Fm C H0 ρ0 σ σV ρ g H) {i : Nat} {d : D} (h : slot σ i = .imm d) : ∃ v, σV[i]? = some (some v) ∧ Rep C ρ H d v := by
  unfold slot at h
  rw [List.getD_eq_getElem?_getD] at h
  cases q : σ[i]? with
  | none => rw [q] at h; cases h
  | some s =>
    rw [q] at h
    have h : s = .imm d := h
    subst h
    have hi : i < σV.length := by
      rw [← F.len]
      exact (List.getElem?_eq_some_iff.mp q).1
    obtain ⟨v, e, r⟩ := F.rep i _ σV[i] q (List.getElem?_eq_getElem hi)
    exact ⟨v, by rw [List.getElem?_eq_getElem hi, e], r⟩
end
end MC
namespace MC
open PySem PySem.Spec L2

/-! ### shapes of the text -/
def okE : Expr → Bool
  | .Starred _ _ => false
  | .Set _ _ _ => false
  | .Slice _ _ _ _ => false
  | _ => true
def noComp : Expr → Bool
  | .ListComp _ _ _ _ => false
  | .SetComp _ _ _ _ => false
  | .DictComp _ _ _ _ _ => false
  | _ => true
def plainT : Expr → Bool
  | .UnaryOp _ _ _ => false
  | .BoolOp _ _ _ => false
  | .IfExp _ _ _ _ => false
  | .Compare _ _ _ _ => false
  | _ => true
def noCall : Expr → Bool
  | .Call _ _ _ _ => false
  | _ => true
theorem star_of {e : Expr} (h : okE e = true) (es : List Expr) (env : Env) : starEach (e :: es) env = (false, eval e env) :: starEach es env := by
  cases e <;> first | rfl | cases h
theorem behind_of {e : Expr} (h : okE e = true) (op : CmpOp) : behindInMarks op e = false := by
  cases e <;> first | rfl | cases h
theorem plainIx_of {e : Expr} (h : okE e = true) : PlainIx e := fun o i => by
  cases e <;> first | rfl | cases h
theorem isTrue_of {e : Expr} (h : plainT e = true) (env : Env) (whole : Sem Value) : isTrue e env whole = (do let v ← whole; standAt e.pos; holding [v] (truthy v)) := by
  cases e <;> first | rfl | cases h
theorem swaps_of {e : Expr} (h : noComp e = true) (t : Option Expr) (l : Nat) (env : Env) : swapsWith e t l env = pure false := by
  cases e <;> first | rfl | cases h
theorem folded_of {e : Expr} (h : okE e = true) (env : Env) (x : Value) : foldedSetIterable e env x = pure x := by
  cases e <;> first | rfl | cases h
theorem base_of {e : Expr} (h : noCall e = true) (f : Str) (env : Env) (w : Sem Value) : attributeBase e f env w = w := by
  cases e <;> first | rfl | cases h
theorem stars_of : ∀ {es : List Expr}, es.all okE = true → ∀ (env : Env) (pos : Pos), (backTo pos (starEach es env)).any (·.1) = false
  | [], _, _, _ => rfl
  | e :: es, h, env, pos => by
    obtain ⟨h1, h2⟩ := Bool.and_eq_true_iff.mp (show (okE e && es.all okE) = true from h)
    rw [star_of h1]
    show (false || (backTo pos (starEach es env)).any (·.1)) = false
    rw [stars_of h2 env pos]
    rfl
theorem last_of {b c : Expr} {op op' : CmpOp} (h : okE c = true) : lastMarks [op, op'] [b, c] = false := behind_of h op'

/-! ### what is run -/
section
variable (C : Cn) (W : WX) (H0 : Hp) (ρ0 : Rho)
/-- a run has come to mg; k: what is wanted behind it -/
def At {α : Type} (σV : L2.St) (σ : List Sl) (ρ : Rho) (g : G) (H : Hp) (mg : Option (R α × G)) (k : α → Rho → Hp → Prop) : Prop :=
  Fm C H0 ρ0 σ σV ρ g H ∧ ∃ r g', mg = some (r, g') ∧ match r with
    | .ok a => ∀ ρ' H', Fm C H0 ρ0 σ σV ρ' g' H' → Stp ρ H ρ' H' → k a ρ' H'
    | .ex c => ∀ ρ' H', Fm C H0 ρ0 σ σV ρ' g' H' → W (.ref (He.ga C.K c)) none σV H'
def Run {α : Type} (σV : L2.St) (H : Hp) (m : List Sl → M α) (k : α → Rho → Hp → Prop) : Prop := ∃ σ ρ g, At C W H0 ρ0 σV σ ρ g H (m σ g) k
def lift (m : List Sl → M D) : TE := fun σV H Q => Run C W H0 ρ0 σV H m fun d ρ' H' => ∀ v, Rep C ρ' H' d v → Q v H'
def liftA (m : List Sl → M (List D)) : TA := fun σV H Q => Run C W H0 ρ0 σV H m fun ds ρ' H' => ∀ vs, Reps C ρ' H' ds vs → Q vs H'
def liftT (m : List Sl → M Bool) : TT := fun σV H Q => Run C W H0 ρ0 σV H m fun b _ H' => Q b H'
def liftO (m : List Sl → M (Option Int)) : TO := fun σV H Q => Run C W H0 ρ0 σV H m fun o _ H' => Q o H'
end
section
variable {C : Cn} {W : WX} {H0 : Hp} {ρ0 : Rho} {X : Cx} {σV : L2.St} {σ : List Sl} {ρ : Rho} {g : G} {H : Hp}
theorem At.bind {α β : Type} {m : M α} {f : α → M β} {k : β → Rho → Hp → Prop} (h : At C W H0 ρ0 σV σ ρ g H (M.bind m f g) k) {k1 : α → Rho → Hp → Prop}
    (q : ∀ a ρ1 H1 g1, Stp ρ H ρ1 H1 → At C W H0 ρ0 σV σ ρ1 g1 H1 (f a g1) k → k1 a ρ1 H1) : At C W H0 ρ0 σV σ ρ g H (m g) k1 := by
  obtain ⟨F, r, g', hm, hk⟩ := h
  rcases bind_some hm with ⟨c, h1, rfl⟩ | ⟨a, g1, h1, h2⟩
  · exact ⟨F, .ex c, g', h1, hk⟩
  · refine ⟨F, .ok a, g1, h1, fun ρ1 H1 F1 s1 => q a ρ1 H1 g1 s1 ⟨F1, r, g', h2, ?_⟩⟩
    cases r with
    | ok b => exact fun ρ' H' F' s' => hk ρ' H' F' (s1.trans s')
    | ex c => exact hk
theorem At.imp {α : Type} {mg : Option (R α × G)} {k k1 : α → Rho → Hp → Prop} (h : At C W H0 ρ0 σV σ ρ g H mg k) (q : ∀ a ρ1 H1, Stp ρ H ρ1 H1 → RhoOk ρ H → k a ρ1 H1 → k1 a ρ1 H1) : At C W H0 ρ0 σV σ ρ g H mg k1 := by
  obtain ⟨F, r, g', hm, hk⟩ := h
  refine ⟨F, r, g', hm, ?_⟩
  cases r with
  | ok b => exact fun ρ' H' F' s' => q b ρ' H' s' F.rok (hk ρ' H' F' s')
  | ex c => exact hk
theorem At.opt {α : Type} {o : Option α} {k : α → Rho → Hp → Prop} (h : At C W H0 ρ0 σV σ ρ g H (M.opt o g) k) : ∃ a, o = some a ∧ Fm C H0 ρ0 σ σV ρ g H ∧ ∀ ρ' H', Fm C H0 ρ0 σ σV ρ' g H' → Stp ρ H ρ' H' → k a ρ' H' := by
  obtain ⟨F, r, g', hm, hk⟩ := h
  obtain ⟨a, e, rfl, rfl⟩ := opt_some hm
  exact ⟨a, e, F, hk⟩
theorem At.pure {α : Type} {a : α} {k : α → Rho → Hp → Prop} (h : At C W H0 ρ0 σV σ ρ g H (M.pure a g) k) : Fm C H0 ρ0 σ σV ρ g H ∧ ∀ ρ' H', Fm C H0 ρ0 σ σV ρ' g H' → Stp ρ H ρ' H' → k a ρ' H' := by
  obtain ⟨b, e, F, hk⟩ := At.opt (o := some a) h
  cases e
  exact ⟨F, hk⟩
theorem At.fail {α : Type} {k : α → Rho → Hp → Prop} (h : At C W H0 ρ0 σV σ ρ g H ((M.fail : M α) g) k) : False := by
  obtain ⟨F, r, g', hm, hk⟩ := h
  cases hm
/-- a value grown from here -/
theorem fin_grow {d : D} {Q : VK} (F : Fm C H0 ρ0 σ σV ρ g H) (hk : ∀ ρ' H', Fm C H0 ρ0 σ σV ρ' g H' → Stp ρ H ρ' H' → ∀ v, Rep C ρ' H' d v → Q v H') : ∀ v H', Grow H H' → Rep C ρ H' d v → Q v H' :=
  fun v H' k r => hk ρ H' (F.grow k) (.of _ k) v r

/-! ### names, constants -/
theorem sE_var {i : Nat} {x : Str} {pos : Pos} (hN : X.N[i]? = some x) (hv : Vis X.env.scope x) (hd : (x == ("__debug__" : Str)) = false) (hcd : (x == ("__classdict__" : Str)) = false) : PE X (.Name x pos) (lift C W H0 ρ0 fun σ => slotD σ i) := by
  refine PE.imp (pe_var hN hv hd hcd) fun σV H Q h => ?_
  obtain ⟨σ, ρ, g, h⟩ := h
  obtain ⟨F, r, g', hm, hk⟩ := h
  replace hm : slotD σ i g = some (r, g') := hm
  unfold slotD at hm
  cases e : slot σ i with
  | imm d =>
    rw [e] at hm
    obtain ⟨rfl, rfl⟩ := pure_some hm
    obtain ⟨v, e1, q⟩ := F.get e
    exact ⟨v, e1, hk ρ H F (.refl _ _) v q⟩
  | _ =>
    rw [e] at hm
    cases hm
theorem sE_cst {e : Expr} {d : D} {v : V} (h : PE X e (tC v)) (r : ∀ ρ H, Rep C ρ H d v) : PE X e (lift C W H0 ρ0 fun _ => M.pure d) := by
  refine PE.imp h fun σV H Q h => ?_
  obtain ⟨σ, ρ, g, h⟩ := h
  obtain ⟨F, hk⟩ := At.pure h
  exact hk ρ H F (.refl _ _) v (r _ _)

/-! ### lists of expressions -/
theorem sA_nil : PA X [] (liftA C W H0 ρ0 fun _ => M.pure []) := by
  refine PA.imp pa_nil fun σV H Q h => ?_
  obtain ⟨σ, ρ, g, h⟩ := h
  obtain ⟨F, hk⟩ := At.pure h
  exact hk ρ H F (.refl _ _) [] rfl
theorem sA_cons {e : Expr} {es : List Expr} {m : List Sl → M D} {ms : List Sl → M (List D)} (ok : okE e = true) (h1 : PE X e (lift C W H0 ρ0 m)) (h2 : PA X es (liftA C W H0 ρ0 ms)) :
    PA X (e :: es) (liftA C W H0 ρ0 fun σ => M.bind (m σ) fun d => M.bind (ms σ) fun ds => M.pure (d :: ds)) := by
  refine PA.imp (pa_cons h1 h2 (star_of ok _ _)) fun σV H Q h => ?_
  obtain ⟨σ, ρ, g, h⟩ := h
  refine ⟨σ, ρ, g, h.bind fun d ρ1 H1 g1 s1 h1 v rv => ?_⟩
  have F1 := h1.1
  refine ⟨σ, ρ1, g1, h1.bind fun ds ρ2 H2 g2 s2 h2 vs rvs => ?_⟩
  obtain ⟨F2, hk⟩ := At.pure h2
  exact hk ρ2 H2 F2 (.refl _ _) (v :: vs) ⟨v, vs, rfl, rv.to (s2.keeps F1.rok) s2.pre, rvs⟩
theorem sE_tup {es : List Expr} {ms : List Sl → M (List D)} {k : Nat} {pos : Pos} (h : PA X es (liftA C W H0 ρ0 ms)) (len : ∀ σ g ds g', ms σ g = some (.ok ds, g') → ds.length ≤ 1000) :
    PE X (.Tuple es k pos) (lift C W H0 ρ0 fun σ => M.bind (ms σ) fun ds => M.pure (.tup ds)) := by
  refine PE.imp (pe_tup h) fun σV H Q h => ?_
  obtain ⟨σ, ρ, g, h⟩ := h
  obtain ⟨F, r, g', hm, hk⟩ := h
  rcases bind_some hm with ⟨c, h1, rfl⟩ | ⟨ds, g1, h1, h2⟩
  · exact ⟨σ, ρ, g, F, .ex c, g', h1, hk⟩
  · obtain ⟨rfl, rfl⟩ := pure_some h2
    refine ⟨σ, ρ, g, F, .ok ds, g', h1, fun ρ1 H1 F1 s1 vs rvs => ⟨?_, fun p hp => ?_⟩⟩
    · rw [rvs.len, sizeLine_eq]
      have := len σ g ds g' h1
      omega
    · exact hk ρ1 _ (F1.grow (Grow.upd hp)) (s1.trans (.of _ (Grow.upd hp))) _ ⟨p, vs, rfl, SqT.of upd_same, rvs.grow (Grow.upd hp)⟩
theorem sE_lst {es : List Expr} {ms : List Sl → M (List D)} {pos : Pos} (h : PA X es (liftA C W H0 ρ0 ms)) (len : ∀ σ g ds g', ms σ g = some (.ok ds, g') → ds.length ≤ 1000) :
    PE X (.List es pos) (lift C W H0 ρ0 fun σ => M.bind (ms σ) fun ds => M.pure (.lst ds)) := by
  refine PE.imp (PE.frz (pe_lst h)) fun σV H Q h => ?_
  obtain ⟨σ, ρ, g, h⟩ := h
  obtain ⟨F, r, g', hm, hk⟩ := h
  rcases bind_some hm with ⟨c, h1, rfl⟩ | ⟨ds, g1, h1, h2⟩
  · exact ⟨σ, ρ, g, F, .ex c, g', h1, hk⟩
  · obtain ⟨rfl, rfl⟩ := pure_some h2
    refine ⟨σ, ρ, g, F, .ok ds, g', h1, fun ρ1 H1 F1 s1 vs rvs => ⟨?_, fun p hp => FzTo.new fun o => ?_⟩⟩
    · rw [rvs.len, sizeLine_eq]
      have := len σ g ds g' h1
      omega
    · exact hk ρ1 _ (F1.grow (Grow.upd hp)) (s1.trans (.of _ (Grow.upd hp))) _ ⟨p, vs, rfl, fz_at, rvs.grow (Grow.upd hp)⟩
/-! ### operators -/
theorem run_op {ma mb : List Sl → M D} {f : D → D → Option D} {Q : VK} (h : lift C W H0 ρ0 (fun σ => M.bind (ma σ) fun x => M.bind (mb σ) fun y => M.opt (f x y)) σV H Q) :
    tOp (rD2 C f) (lift C W H0 ρ0 ma) (lift C W H0 ρ0 mb) σV H Q := by
  obtain ⟨σ, ρ, g, h⟩ := h
  refine ⟨σ, ρ, g, h.bind fun x ρ1 H1 g1 s1 h1 v rv => ?_⟩
  have F1 := h1.1
  refine ⟨σ, ρ1, g1, h1.bind fun y ρ2 H2 g2 s2 h2 w rw' => ?_⟩
  obtain ⟨d, e, F2, hk⟩ := At.opt h2
  exact ⟨ρ2, x, y, d, rv.to (s2.keeps F1.rok) s2.pre, rw', e, fin_grow F2 hk⟩
theorem sE_bin {op : Operator} {f : D → D → Option D} {a b : Expr} {ma mb : List Sl → M D} {pos : Pos} (ho : OpR X (binaryOp op) (rD2 C f)) (ha : PE X a (lift C W H0 ρ0 ma)) (hb : PE X b (lift C W H0 ρ0 mb)) :
    PE X (.BinOp a op b pos) (lift C W H0 ρ0 fun σ => M.bind (ma σ) fun x => M.bind (mb σ) fun y => M.opt (f x y)) := PE.imp (pe_op ho ha hb) fun σV H Q h => run_op h
theorem sE_cmp {op : CmpOp} {f : D → D → Option D} {a b : Expr} {ma mb : List Sl → M D} {pos : Pos} (ok : okE b = true) (ho : OpR X (compareOp op) (rD2 C f)) (ha : PE X a (lift C W H0 ρ0 ma)) (hb : PE X b (lift C W H0 ρ0 mb)) :
    PE X (.Compare a [op] [b] pos) (lift C W H0 ρ0 fun σ => M.bind (ma σ) fun x => M.bind (mb σ) fun y => M.opt (f x y)) := PE.imp (pe_cmpR ho ha hb (behind_of ok op)) fun σV H Q h => run_op h
/-- a test by the value of the expression -/
def tru (m : List Sl → M D) : List Sl → M Bool := fun σ => M.bind (m σ) fun x => M.opt (truth x)
theorem sT_cmp {op : CmpOp} {f : D → D → Option D} {a b : Expr} {ma mb : List Sl → M D} {pos : Pos} (ok : okE b = true) (hf : ∀ x y d, f x y = some d → ∃ t, d = .bl t) (ho : OpR X (compareOp op) (rD2 C f)) (ha : PE X a (lift C W H0 ρ0 ma)) (hb : PE X b (lift C W H0 ρ0 mb)) :
    PT X (.Compare a [op] [b] pos) (liftT C W H0 ρ0 (tru fun σ => M.bind (ma σ) fun x => M.bind (mb σ) fun y => M.opt (f x y))) := by
  refine PT.imp (pt_cmpR ho ha hb (behind_of ok op)) fun σV H Q h => ?_
  obtain ⟨σ, ρ, g, h⟩ := h
  unfold tru at h
  rw [M.bind_assoc] at h
  refine ⟨σ, ρ, g, h.bind fun x ρ1 H1 g1 s1 h1 v rv => ?_⟩
  have F1 := h1.1
  rw [M.bind_assoc] at h1
  refine ⟨σ, ρ1, g1, h1.bind fun y ρ2 H2 g2 s2 h2 w rw' => ?_⟩
  have F2 := h2.1
  obtain ⟨F, r, g', hm, hk⟩ := h2
  rcases bind_some hm with ⟨c, h1, rfl⟩ | ⟨d, g3, h3, h4⟩
  · obtain ⟨_, _, z, _⟩ := opt_some h1
    cases z
  · obtain ⟨d', e, ed, eg⟩ := opt_some h3
    cases ed
    subst eg
    obtain ⟨b', e2, rfl, rfl⟩ := opt_some h4
    obtain ⟨t, rfl⟩ := hf _ _ _ e
    have e3 : t = b' := Option.some.inj e2
    subst e3
    exact ⟨ρ2, x, y, .bl t, rv.to (s2.keeps F1.rok) s2.pre, rw', e, fun z H' k r => ⟨t, r, hk ρ2 H' (F2.grow k) (.of _ k)⟩⟩
/-- a test of any other form -/
theorem sT_any {e : Expr} {m : List Sl → M D} (hK : X.K = C.K) (ok : plainT e = true) (h : PE X e (lift C W H0 ρ0 m)) : PT X e (liftT C W H0 ρ0 (tru m)) := by
  refine PT.imp (pt_truth h (isTrue_of ok X.env)) fun σV H Q h => ?_
  obtain ⟨σ, ρ, g, h⟩ := h
  refine ⟨σ, ρ, g, At.bind (f := fun x => M.opt (truth x)) h fun x ρ1 H1 g1 s1 h1 v rv => ?_⟩
  obtain ⟨b, e, F1, hk⟩ := At.opt h1
  exact ⟨b, by rw [hK]; exact snd_tru rv e, hk ρ1 H1 F1 (.refl _ _)⟩
theorem sE_not {e : Expr} {m : List Sl → M D} {pos : Pos} (hK : X.K = C.K) (h : PE X e (lift C W H0 ρ0 m)) : PE X (.UnaryOp .Not e pos) (lift C W H0 ρ0 fun σ => M.bind (m σ) fun x => M.bind (M.opt (truth x)) fun t => M.pure (.bl (!t))) := by
  refine PE.imp (pe_notT h) fun σV H Q h => ?_
  obtain ⟨σ, ρ, g, h⟩ := h
  refine ⟨σ, ρ, g, h.bind fun x ρ1 H1 g1 s1 h1 v rv => ?_⟩
  obtain ⟨F, r, g', hm, hk⟩ := h1
  rcases bind_some hm with ⟨c, h1, rfl⟩ | ⟨t, g3, h3, h4⟩
  · obtain ⟨_, _, z, _⟩ := opt_some h1
    cases z
  · obtain ⟨b, e, eb, eg⟩ := opt_some h3
    cases eb
    subst eg
    obtain ⟨rfl, rfl⟩ := pure_some h4
    exact ⟨t, by rw [hK]; exact snd_tru rv e, hk ρ1 H1 F (.refl _ _) _ rfl⟩
theorem sT_not {e : Expr} {m : List Sl → M D} {pos : Pos} (h : PT X e (liftT C W H0 ρ0 (tru m))) : PT X (.UnaryOp .Not e pos) (liftT C W H0 ρ0 (tru fun σ => M.bind (m σ) fun x => M.bind (M.opt (truth x)) fun t => M.pure (.bl (!t)))) := by
  refine PT.imp (pt_not h) fun σV H Q h => ?_
  obtain ⟨σ, ρ, g, F, r, g', hm, hk⟩ := h
  unfold tru at hm
  rcases bind_some hm with ⟨c, h1, rfl⟩ | ⟨d, g1, h1, h2⟩
  · rcases bind_some h1 with ⟨c', h3, z⟩ | ⟨x, g2, h3, h4⟩
    · cases z
      refine ⟨σ, ρ, g, F, .ex c, g', ?_, hk⟩
      show M.bind (m σ) _ g = _
      unfold M.bind
      rw [h3]
    · rcases bind_some h4 with ⟨c', h5, z⟩ | ⟨t, g3, h5, h6⟩
      · obtain ⟨_, _, y, _⟩ := opt_some h5
        cases y
      · obtain ⟨y, _⟩ := pure_some h6
        cases y
  · rcases bind_some h1 with ⟨c', h3, z⟩ | ⟨x, g2, h3, h4⟩
    · cases z
    · rcases bind_some h4 with ⟨c', h5, z⟩ | ⟨t, g3, h5, h6⟩
      · cases z
      · obtain ⟨y, e1⟩ := pure_some h6
        cases y
        obtain ⟨b', e2, rfl, rfl⟩ := opt_some h2
        cases (Option.some.inj e2 : (!t) = b')
        refine ⟨σ, ρ, g, F, .ok t, _, ?_, hk⟩
        show M.bind (m σ) _ g = _
        unfold M.bind
        rw [h3]
        show M.opt (truth x) g2 = _
        rw [h5, e1]
end
end MC
namespace MC
open PySem PySem.Spec L2
section
variable {C : Cn} {W : WX} {H0 : Hp} {ρ0 : Rho} {X : Cx} {σV : L2.St} {σ : List Sl} {ρ : Rho} {g : G} {H : Hp}
/-! ### chains -/
def chnM (f f' : D → D → Option D) (ma mb mc : List Sl → M D) : List Sl → M D := fun σ => M.bind (ma σ) fun x => M.bind (mb σ) fun y => M.bind (M.opt ((f x y).bind asB)) fun t => match t with
  | true => M.bind (mc σ) fun z => M.opt (f' y z)
  | false => M.pure (.bl false)
theorem chn_run {f f' : D → D → Option D} {ma mb mc : List Sl → M D} {Q : VK} (h : lift C W H0 ρ0 (chnM f f' ma mb mc) σV H Q) : tChain (rD2 C f) (rD2 C f') (lift C W H0 ρ0 ma) (lift C W H0 ρ0 mb) (lift C W H0 ρ0 mc) σV H Q := by
  obtain ⟨σ, ρ, g, h⟩ := h
  refine ⟨σ, ρ, g, h.bind fun x ρ1 H1 g1 s1 h1 v rv => ?_⟩
  have F1 := h1.1
  refine ⟨σ, ρ1, g1, h1.bind fun y ρ2 H2 g2 s2 h2 w rw' => ?_⟩
  have F2 := h2.1
  obtain ⟨F, r, g', hm, hk⟩ := h2
  rcases bind_some hm with ⟨c, h1, rfl⟩ | ⟨t, g3, h3, h4⟩
  · obtain ⟨_, _, z, _⟩ := opt_some h1
    cases z
  · obtain ⟨b', e, eb, eg⟩ := opt_some h3
    cases eb
    subst eg
    cases e1 : f x y with
    | none => rw [e1] at e; cases e
    | some d =>
      rw [e1] at e
      have e : asB d = some t := e
      have ed : d = .bl t := by
        cases d with
        | bl b => cases (Option.some.inj e : b = t); rfl
        | _ => cases e
      subst ed
      refine ⟨ρ2, x, y, _, rv.to (s2.keeps F1.rok) s2.pre, rw', e1, fun z H3 k r3 => ⟨t, r3, ?_⟩⟩
      cases t with
      | false =>
        obtain ⟨rfl, rfl⟩ := pure_some h4
        exact hk ρ2 H3 (F2.grow k) (.of _ k) _ rfl
      | true =>
        refine ⟨σ, ρ2, g3, At.bind (f := fun z => M.opt (f' y z)) (m := mc σ) (k := fun d ρ' H' => ∀ v, Rep C ρ' H' d v → Q v H') ⟨F2.grow k, r, g', h4, ?_⟩ fun z ρ4 H4 g4 s4 h4 u ru => ?_⟩
        · cases r with
          | ok b => exact fun ρ' H' F' s' => hk ρ' H' F' ((Stp.of _ k).trans s')
          | ex c => exact hk
        · obtain ⟨d, e, F4, hk4⟩ := At.opt h4
          exact ⟨ρ4, y, z, d, (rw'.grow k).to (s4.keeps (F2.grow k).rok) s4.pre, ru, e, fin_grow F4 hk4⟩
theorem sE_chn {op op' : CmpOp} {f f' : D → D → Option D} {a b c : Expr} {ma mb mc : List Sl → M D} {pos : Pos} (ok : okE c = true) (ho : OpR X (compareOp op) (rD2 C f)) (ho' : OpR X (compareOp op') (rD2 C f'))
    (ha : PE X a (lift C W H0 ρ0 ma)) (hb : PE X b (lift C W H0 ρ0 mb)) (hc : PE X c (lift C W H0 ρ0 mc)) : PE X (.Compare a [op, op'] [b, c] pos) (lift C W H0 ρ0 (chnM f f' ma mb mc)) :=
  PE.imp (pe_chain ho ho' ha hb hc (last_of ok)) fun σV H Q h => chn_run h
theorem lift_tru {m : List Sl → M D} {Q : Bool → Hp → Prop} (hf : ∀ σ g d g', m σ g = some (.ok d, g') → ∃ t, d = .bl t) (h : liftT C W H0 ρ0 (tru m) σV H Q) : lift C W H0 ρ0 m σV H (fun v H' => ∃ k, v = .bl k ∧ Q k H') := by
  obtain ⟨σ, ρ, g, h⟩ := h
  obtain ⟨F, r, g', hm, hk⟩ := h
  unfold tru at hm
  rcases bind_some hm with ⟨c, h1, rfl⟩ | ⟨x, g1, h1, h2⟩
  · exact ⟨σ, ρ, g, F, .ex c, g', h1, hk⟩
  · obtain ⟨t, rfl⟩ := hf σ g x g1 h1
    obtain ⟨b, e, rfl, rfl⟩ := opt_some h2
    have e : t = b := Option.some.inj e
    subst e
    exact ⟨σ, ρ, g, F, .ok (.bl t), _, h1, fun ρ' H' F' s' v rv => ⟨t, rv, hk ρ' H' F' s'⟩⟩
theorem chn_bl {f f' : D → D → Option D} (hf' : ∀ x y d, f' x y = some d → ∃ t, d = .bl t) {ma mb mc : List Sl → M D} : ∀ σ g d g', chnM f f' ma mb mc σ g = some (.ok d, g') → ∃ t, d = .bl t := fun σ g d g' h => by
  unfold chnM at h
  rcases bind_some h with ⟨c, _, z⟩ | ⟨x, g1, h1, h2⟩
  · cases z
  · rcases bind_some h2 with ⟨c, _, z⟩ | ⟨y, g2, h3, h4⟩
    · cases z
    · rcases bind_some h4 with ⟨c, _, z⟩ | ⟨t, g3, h5, h6⟩
      · cases z
      · cases t with
        | false =>
          obtain ⟨e, _⟩ := pure_some h6
          cases e
          exact ⟨_, rfl⟩
        | true =>
          rcases bind_some h6 with ⟨c, _, z⟩ | ⟨z, g4, h7, h8⟩
          · cases z
          · obtain ⟨_, e, ed, _⟩ := opt_some h8
            cases ed
            exact hf' _ _ _ e
theorem sT_chn {op op' : CmpOp} {f f' : D → D → Option D} {a b c : Expr} {ma mb mc : List Sl → M D} {pos : Pos} (ok : okE c = true) (hf' : ∀ x y d, f' x y = some d → ∃ t, d = .bl t) (ho : OpR X (compareOp op) (rD2 C f)) (ho' : OpR X (compareOp op') (rD2 C f'))
    (ha : PE X a (lift C W H0 ρ0 ma)) (hb : PE X b (lift C W H0 ρ0 mb)) (hc : PE X c (lift C W H0 ρ0 mc)) : PT X (.Compare a [op, op'] [b, c] pos) (liftT C W H0 ρ0 (tru (chnM f f' ma mb mc))) :=
  PT.imp (pt_chain ho ho' ha hb hc (last_of ok)) fun σV H Q h => chn_run (lift_tru (chn_bl hf') h)
/-! ### and, or -/
def andM (ma mr : List Sl → M D) : List Sl → M D := fun σ => M.bind (ma σ) fun x => M.bind (M.opt (truth x)) fun t => match t with
  | true => mr σ
  | false => M.pure x
def orM (ma mr : List Sl → M D) : List Sl → M D := fun σ => M.bind (ma σ) fun x => M.bind (M.opt (truth x)) fun t => match t with
  | true => M.pure x
  | false => mr σ
theorem sE_and {a b : Expr} {rest : List Expr} {ma mr : List Sl → M D} {pos : Pos} (hK : X.K = C.K) (ha : PE X a (lift C W H0 ρ0 ma)) (hb : PE X (.BoolOp .And (b :: rest) pos) (lift C W H0 ρ0 mr)) :
    PE X (.BoolOp .And (a :: b :: rest) pos) (lift C W H0 ρ0 (andM ma mr)) := by
  refine PE.imp (pe_andT ha hb) fun σV H Q h => ?_
  obtain ⟨σ, ρ, g, h⟩ := h
  refine ⟨σ, ρ, g, At.bind h fun x ρ1 H1 g1 s1 h1 v rv => ?_⟩
  obtain ⟨F, r, g', hm, hk⟩ := h1
  rcases bind_some hm with ⟨c, h1, rfl⟩ | ⟨t, g3, h3, h4⟩
  · obtain ⟨_, _, z, _⟩ := opt_some h1
    cases z
  · obtain ⟨b', e, eb, eg⟩ := opt_some h3
    cases eb
    subst eg
    refine ⟨t, by rw [hK]; exact snd_tru rv e, ?_⟩
    cases t with
    | true => exact ⟨σ, ρ1, g3, F, r, g', h4, hk⟩
    | false =>
      obtain ⟨rfl, rfl⟩ := pure_some h4
      exact hk ρ1 H1 F (.refl _ _) v rv
theorem sE_or {a b : Expr} {rest : List Expr} {ma mr : List Sl → M D} {pos : Pos} (hK : X.K = C.K) (ha : PE X a (lift C W H0 ρ0 ma)) (hb : PE X (.BoolOp .Or (b :: rest) pos) (lift C W H0 ρ0 mr)) :
    PE X (.BoolOp .Or (a :: b :: rest) pos) (lift C W H0 ρ0 (orM ma mr)) := by
  refine PE.imp (pe_orT ha hb) fun σV H Q h => ?_
  obtain ⟨σ, ρ, g, h⟩ := h
  refine ⟨σ, ρ, g, At.bind h fun x ρ1 H1 g1 s1 h1 v rv => ?_⟩
  obtain ⟨F, r, g', hm, hk⟩ := h1
  rcases bind_some hm with ⟨c, h1, rfl⟩ | ⟨t, g3, h3, h4⟩
  · obtain ⟨_, _, z, _⟩ := opt_some h1
    cases z
  · obtain ⟨b', e, eb, eg⟩ := opt_some h3
    cases eb
    subst eg
    refine ⟨t, by rw [hK]; exact snd_tru rv e, ?_⟩
    cases t with
    | false => exact ⟨σ, ρ1, g3, F, r, g', h4, hk⟩
    | true =>
      obtain ⟨rfl, rfl⟩ := pure_some h4
      exact hk ρ1 H1 F (.refl _ _) v rv
theorem truth_again {x : D} {t : Bool} (h : truth x = some t) (g : G) : M.opt (truth x) g = some (.ok t, g) := by rw [h]; rfl
theorem tru_and (ma mr : List Sl → M D) (σ : List Sl) : tru (andM ma mr) σ = M.bind (tru ma σ) fun t => match t with
    | true => tru mr σ
    | false => M.pure false := by
  funext g
  unfold tru andM M.bind
  dsimp only
  cases ma σ g with
  | none => rfl
  | some p =>
    obtain ⟨r, g1⟩ := p
    cases r with
    | ex c => rfl
    | ok x =>
      dsimp only
      cases e : truth x with
      | none => rfl
      | some t =>
        cases t with
        | true => rfl
        | false =>
          show M.opt (truth x) g1 = _
          rw [e]
          rfl
theorem tru_or (ma mr : List Sl → M D) (σ : List Sl) : tru (orM ma mr) σ = M.bind (tru ma σ) fun t => match t with
    | true => M.pure true
    | false => tru mr σ := by
  funext g
  unfold tru orM M.bind
  dsimp only
  cases ma σ g with
  | none => rfl
  | some p =>
    obtain ⟨r, g1⟩ := p
    cases r with
    | ex c => rfl
    | ok x =>
      dsimp only
      cases e : truth x with
      | none => rfl
      | some t =>
        cases t with
        | false => rfl
        | true =>
          show M.opt (truth x) g1 = _
          rw [e]
          rfl
theorem PW.imp {e : Expr} {t t' : TT} (h : PW X e t) (k : ∀ σ H Q, t' σ H Q → t σ H Q) : PW X e t' := ⟨fun wh pins s σ H Q I hw => h.run wh pins s σ H Q I (k _ _ _ hw)⟩
theorem sW_and {a b : Expr} {rest : List Expr} {ma mr : List Sl → M D} {pos : Pos} (ha : PT X a (liftT C W H0 ρ0 (tru ma))) (hb : PW X (.BoolOp .And (b :: rest) pos) (liftT C W H0 ρ0 (tru mr))) :
    PW X (.BoolOp .And (a :: b :: rest) pos) (liftT C W H0 ρ0 (tru (andM ma mr))) := by
  refine PW.imp (pw_and ha hb) fun σV H Q h => ?_
  obtain ⟨σ, ρ, g, h⟩ := h
  rw [tru_and] at h
  refine ⟨σ, ρ, g, At.bind h fun t ρ1 H1 g1 s1 h1 => ?_⟩
  cases t with
  | true => exact ⟨σ, ρ1, g1, h1⟩
  | false =>
    obtain ⟨F, hk⟩ := At.pure h1
    exact hk ρ1 H1 F (.refl _ _)
theorem sW_or {a b : Expr} {rest : List Expr} {ma mr : List Sl → M D} {pos : Pos} (ha : PT X a (liftT C W H0 ρ0 (tru ma))) (hb : PW X (.BoolOp .Or (b :: rest) pos) (liftT C W H0 ρ0 (tru mr))) :
    PW X (.BoolOp .Or (a :: b :: rest) pos) (liftT C W H0 ρ0 (tru (orM ma mr))) := by
  refine PW.imp (pw_or ha hb) fun σV H Q h => ?_
  obtain ⟨σ, ρ, g, h⟩ := h
  rw [tru_or] at h
  refine ⟨σ, ρ, g, At.bind h fun t ρ1 H1 g1 s1 h1 => ?_⟩
  cases t with
  | false => exact ⟨σ, ρ1, g1, h1⟩
  | true =>
    obtain ⟨F, hk⟩ := At.pure h1
    exact hk ρ1 H1 F (.refl _ _)
/-! ### -e, a if c else b -/
theorem sE_neg {e : Expr} {m : List Sl → M D} {pos : Pos} (h : PE X e (lift C W H0 ρ0 m)) : PE X (.UnaryOp .USub e pos) (lift C W H0 ρ0 fun σ => M.bind (m σ) fun x => match x with
    | .int i => M.pure (.int (-i))
    | _ => M.fail) := by
  refine PE.imp (pe_un un_neg h) fun σV H Q h => ?_
  obtain ⟨σ, ρ, g, h⟩ := h
  refine ⟨σ, ρ, g, At.bind h fun x ρ1 H1 g1 s1 h1 v rv => ?_⟩
  cases x with
  | int i =>
    obtain ⟨F, hk⟩ := At.pure h1
    exact ⟨i, rv, hk ρ1 H1 F (.refl _ _) _ rfl⟩
  | _ => exact (At.fail h1).elim
def ifeM (mc ma mb : List Sl → M D) : List Sl → M D := fun σ => M.bind (mc σ) fun x => M.bind (M.opt (truth x)) fun t => match t with
  | true => ma σ
  | false => mb σ
theorem sE_ife {c a b : Expr} {mc ma mb : List Sl → M D} {pos : Pos} (hc : PT X c (liftT C W H0 ρ0 (tru mc))) (ha : PE X a (lift C W H0 ρ0 ma)) (hb : PE X b (lift C W H0 ρ0 mb)) : PE X (.IfExp c a b pos) (lift C W H0 ρ0 (ifeM mc ma mb)) := by
  refine PE.imp (pe_ifExp hc ha hb) fun σV H Q h => ?_
  obtain ⟨σ, ρ, g, h⟩ := h
  unfold ifeM at h
  rw [← M.bind_assoc] at h
  refine ⟨σ, ρ, g, At.bind h fun t ρ1 H1 g1 s1 h1 => ?_⟩
  cases t with
  | true => exact ⟨σ, ρ1, g1, h1⟩
  | false => exact ⟨σ, ρ1, g1, h1⟩
/-! ### subscripts -/
theorem sE_idx {a b : Expr} {ma mb : List Sl → M D} {pos : Pos} (hK : X.K = C.K) (ok : okE b = true) (ha : PE X a (lift C W H0 ρ0 ma)) (hb : PE X b (lift C W H0 ρ0 mb)) :
    PE X (.Subscript a b pos) (lift C W H0 ρ0 fun σ => M.bind (ma σ) fun x => M.bind (mb σ) fun y => M.opt (ixOf x y)) := PE.imp (pe_ix (snd_ix hK) ha hb (plainIx_of ok)) fun σV H Q h => run_op h
theorem sO_none : PO X none (liftO C W H0 ρ0 fun _ => M.pure none) := by
  refine ⟨fun pins s σV H Q I h => po_none.run pins s σV H Q I ?_⟩
  obtain ⟨σ, ρ, g, h⟩ := h
  obtain ⟨F, hk⟩ := At.pure h
  exact hk ρ H F (.refl _ _)
theorem sO_some {e : Expr} {m : List Sl → M D} (h : PE X e (lift C W H0 ρ0 m)) : PO X (some e) (liftO C W H0 ρ0 fun σ => M.bind (m σ) fun x => match x with
    | .int i => M.pure (some i)
    | _ => M.fail) := by
  refine ⟨fun pins s σV H Q I q => (po_some h).run pins s σV H Q I ?_⟩
  obtain ⟨σ, ρ, g, q⟩ := q
  refine ⟨σ, ρ, g, At.bind q fun x ρ1 H1 g1 s1 h1 v rv => ?_⟩
  cases x with
  | int i =>
    obtain ⟨F, hk⟩ := At.pure h1
    exact ⟨i, rv, hk ρ1 H1 F (.refl _ _)⟩
  | _ => exact (At.fail h1).elim
theorem sE_slc {a : Expr} {lo hi : Option Expr} {ma : List Sl → M D} {ml mh : List Sl → M (Option Int)} {pos p2 : Pos} (hK : X.K = C.K) (ha : PE X a (lift C W H0 ρ0 ma)) (hl : PO X lo (liftO C W H0 ρ0 ml)) (hh : PO X hi (liftO C W H0 ρ0 mh)) :
    PE X (.Subscript a (.Slice lo hi none p2) pos) (lift C W H0 ρ0 fun σ => M.bind (ma σ) fun x => M.bind (ml σ) fun l => M.bind (mh σ) fun h => M.opt (slOf x l h)) := by
  refine PE.imp (pe_slice (snd_sl hK) ha hl hh) fun σV H Q h => ?_
  obtain ⟨σ, ρ, g, h⟩ := h
  refine ⟨σ, ρ, g, At.bind h fun x ρ1 H1 g1 s1 h1 v rv => ?_⟩
  have F1 := h1.1
  refine ⟨σ, ρ1, g1, At.bind h1 fun l ρ2 H2 g2 s2 h2 => ?_⟩
  have F2 := h2.1
  refine ⟨σ, ρ2, g2, At.bind h2 fun u ρ3 H3 g3 s3 h3 => ?_⟩
  obtain ⟨d, e, F3, hk⟩ := At.opt h3
  exact ⟨ρ3, x, d, (rv.to (s2.keeps F1.rok) s2.pre).to (s3.keeps F2.rok) s3.pre, e, fin_grow F3 hk⟩
/-! ### built-ins -/
theorem sE_prim {f : List D → Option D} {x : Str} {e : Expr} {es : List Expr} {ms : List Sl → M (List D)} {id : String} {p pos : Pos} (ok : (e :: es).all okE = true) (hc : CallR X (.builtin id) (rDL C f)) (hg : Gl X x) (hm : X.mg x = none) (hv : bootBuiltins x = some (.builtin id))
    (hn : x ≠ "__name__") (hdb : (x == ("__debug__" : Str)) = false) (ha : PA X (e :: es) (liftA C W H0 ρ0 ms)) : PE X (.Call (.Name x p) (e :: es) [] pos) (lift C W H0 ρ0 fun σ => M.bind (ms σ) fun ds => M.opt (f ds)) := by
  obtain ⟨o1, o2⟩ := Bool.and_eq_true_iff.mp (show (okE e && es.all okE) = true from ok)
  refine PE.imp (pe_callB hc hg hm hv ha hn hdb (star_of o1 _ _) (stars_of o2 _ _)) fun σV H Q h => ?_
  obtain ⟨σ, ρ, g, h⟩ := h
  refine ⟨σ, ρ, g, At.bind h fun ds ρ1 H1 g1 s1 h1 vs rv => ?_⟩
  obtain ⟨d, e, F1, hk⟩ := At.opt h1
  exact ⟨ρ1, ds, d, rv, e, fin_grow F1 hk⟩
theorem sE_primT {f : List D → Option D} {x : Str} {e : Expr} {es : List Expr} {ms : List Sl → M (List D)} {id : String} {p pos : Pos} (ok : (e :: es).all okE = true) (hc : CallR X (.type id) (rDL C f)) (hg : Gl X x) (hm : X.mg x = none) (hv : bootBuiltins x = some (.type id))
    (hn : x ≠ "__name__") (hdb : (x == ("__debug__" : Str)) = false) (ha : PA X (e :: es) (liftA C W H0 ρ0 ms)) : PE X (.Call (.Name x p) (e :: es) [] pos) (lift C W H0 ρ0 fun σ => M.bind (ms σ) fun ds => M.opt (f ds)) := by
  obtain ⟨o1, o2⟩ := Bool.and_eq_true_iff.mp (show (okE e && es.all okE) = true from ok)
  refine PE.imp (pe_callTy hc hg hm hv ha hn hdb (star_of o1 _ _) (stars_of o2 _ _)) fun σV H Q h => ?_
  obtain ⟨σ, ρ, g, h⟩ := h
  refine ⟨σ, ρ, g, At.bind h fun ds ρ1 H1 g1 s1 h1 vs rv => ?_⟩
  obtain ⟨d, e, F1, hk⟩ := At.opt h1
  exact ⟨ρ1, ds, d, rv, e, fin_grow F1 hk⟩
theorem sE_isi {e : Expr} {m : List Sl → M D} {t : Ty} {x : Str} {p pos p2 : Pos} (hK : X.K = C.K) (ok : okE e = true) (hg : Gl X "isinstance") (hm : X.mg "isinstance" = none) (hgx : Gl X x) (hmx : X.mg x = none) (hvx : bootBuiltins x = some (.type (tyName t)))
    (hnx : x ≠ "__name__") (hdx : (x == ("__debug__" : Str)) = false) (h : PE X e (lift C W H0 ρ0 m)) : PE X (.Call (.Name "isinstance" p) [e, .Name x p2] [] pos) (lift C W H0 ρ0 fun σ => M.bind (m σ) fun d => M.opt ((isTy d t).map .bl)) := by
  refine PE.imp (pe_callB (snd_isi hK t) hg hm (by decide +kernel) (pa_cons h (pa_cons (pe_bltn (v := .ty (tyName t)) hgx hmx hvx rfl hnx hdx) pa_nil) (star_of ok _ _)) (by decide) (by decide) (star_of ok _ _) rfl) fun σV H Q h => ?_
  obtain ⟨σ, ρ, g, h⟩ := h
  refine ⟨σ, ρ, g, At.bind h fun d ρ1 H1 g1 s1 h1 v rv => ?_⟩
  obtain ⟨b, e, F1, hk⟩ := At.opt h1
  obtain ⟨b', e', rfl⟩ := Option.map_eq_some_iff.mp e
  exact ⟨ρ1, d, v, b', rfl, rv, e', hk ρ1 H1 F1 (.refl _ _) _ rfl⟩
end
end MC
namespace MC
open PySem PySem.Spec L2
/-! ### calls of defs -/
/-- a def's promise, by what it gives over values -/
def spM (C : Cn) (n : Nat) (F : List D → M D) : Sp := fun vs H Q E => vs.length = n ∧ ∃ ρ g ds, Sto ρ g H ∧ Reps C ρ H ds vs ∧ ∃ r g', F ds g = some (r, g') ∧ match r with
  | .ok d => ∀ v ρ' H', Stp ρ H ρ' H' → Sto ρ' g' H' → Rep C ρ' H' d v → Q v H'
  | .ex c => ∀ ρ' H', Stp ρ H ρ' H' → Sto ρ' g' H' → E (.ref (He.ga C.K c)) none H'
theorem puts_len : ∀ {l : List Tg} {ds : List D} {σ σ' : List Sl}, puts l ds σ = some σ' → ds.length = l.length
  | [], ds, σ, σ', e => by
    cases ds with
    | nil => rfl
    | cons _ _ => cases e
  | t :: l, ds, σ, σ', e => by
    cases ds with
    | nil => cases e
    | cons d ds =>
      have e' : (put t d σ).bind (puts l ds) = some σ' := e
      obtain ⟨σ1, e1, e2⟩ := Option.bind_eq_some_iff.mp e'
      rw [List.length_cons, List.length_cons, puts_len e2]
section
variable {C : Cn} {W : WX} {H0 : Hp} {ρ0 : Rho} {X : Cx} {σV : L2.St} {σ : List Sl} {ρ : Rho} {g : G} {H : Hp}
theorem sp_run {F : List D → M D} {n : Nat} {ds : List D} {vs : List V} {Q : VK} (h : At C W H0 ρ0 σV σ ρ g H (F ds g) fun d ρ' H' => ∀ v, Rep C ρ' H' d v → Q v H') (rv : Reps C ρ H ds vs) (hl : ds.length = n) : spM C n F vs H Q (WE W σV) := by
  obtain ⟨Fr, r, g', hm, hk⟩ := h
  refine ⟨rv.len.trans hl, ρ, g, ds, Fr.sto, rv, r, g', hm, ?_⟩
  cases r with
  | ok d => exact fun v ρ' H' st so rp => hk ρ' H' (Fr.step st so) st v rp
  | ex c => exact fun ρ' H' st so => hk ρ' H' (Fr.step st so)
section
variable {k : Nat} {f : Addr} {fd : FuncData} {ps : List Str} {F : List D → M D} {x : Str} {p pos : Pos}
theorem sE_call {e : Expr} {es : List Expr} {ms : List Sl → M (List D)} (tk : Takes X W) (G : FnOk X.prog X.w X.K X.mg X.base (L2.CX X.prog X.w) k f fd ps (spM C ps.length F)) (hr : Room k X.A) (hg : Gl X x) (hm : X.mg x = some (.ref f)) (hk : PySem.W.keepIn X.K (.ref f) = true) (hb : Binds X.K fd ps [])
    (hdb : (x == ("__debug__" : Str)) = false) (ok : (e :: es).all okE = true) (len : ∀ σ g ds g', ms σ g = some (.ok ds, g') → ds.length = ps.length) (ha : PA X (e :: es) (liftA C W H0 ρ0 ms)) :
    PE X (.Call (.Name x p) (e :: es) [] pos) (lift C W H0 ρ0 fun σ => M.bind (ms σ) fun ds => F ds) := by
  obtain ⟨o1, o2⟩ := Bool.and_eq_true_iff.mp (show (okE e && es.all okE) = true from ok)
  refine PE.imp (pe_callS (E := WE W) G hr hg hm hk hb (passAt tk) ha hdb (star_of o1 _ _) (stars_of o2 _ _)) fun σV H Q h => ?_
  obtain ⟨σ, ρ, g, Fr, r, g', hm, hq⟩ := h
  rcases bind_some hm with ⟨c, h1, rfl⟩ | ⟨ds, g1, h1, h2⟩
  · exact ⟨σ, ρ, g, Fr, .ex c, g', h1, hq⟩
  · refine ⟨σ, ρ, g, Fr, .ok ds, g1, h1, fun ρ1 H1 F1 s1 vs rv => sp_run (σ := σ) ⟨F1, r, g', h2, ?_⟩ rv (len σ g ds g1 h1)⟩
    cases r with
    | ok b => exact fun ρ' H' F' s' => hq ρ' H' F' (s1.trans s')
    | ex c => exact hq
theorem sE_call0 (tk : Takes X W) (G : FnOk X.prog X.w X.K X.mg X.base (L2.CX X.prog X.w) k f fd ps (spM C ps.length F)) (hr : Room k X.A) (hg : Gl X x) (hm : X.mg x = some (.ref f)) (hk : PySem.W.keepIn X.K (.ref f) = true) (hb : Binds X.K fd ps [])
    (hdb : (x == ("__debug__" : Str)) = false) (hl : ps.length = 0) : PE X (.Call (.Name x p) [] [] pos) (lift C W H0 ρ0 fun σ => F []) := by
  refine ⟨fun pins s σV H Q I h => ?_⟩
  refine wpAny_Call_Name_kw (ld_glob I hg hm ?_ hdb)
  obtain ⟨σ, ρ, g, h⟩ := h
  exact PySem.W.callWith_K0 I.kIn hk (run_fnS (E := WE W) (us := []) (vs := []) G hr hb (passAt tk σV) I .nil (sp_run (σ := σ) h rfl hl.symm))
end
/-! ### targets -/
mutual
def gT (K : PySem.W.Frag) : Tg → TG
  | .n i => gName i
  | .t l => gTup K l.length (gTs K l)
def gTs (K : PySem.W.Frag) : List Tg → TGs
  | [] => gNil
  | t :: l => gCons (gT K t) (gTs K l)
end
theorem own_imm {d : D} {ov : Option V} : own (.imm d) ov = none := by cases ov <;> rfl
theorem own_un {ov : Option V} : own .un ov = none := by cases ov <;> rfl
theorem Fm.set (F : Fm C H0 ρ0 σ σV ρ g H) {i : Nat} {d : D} {v : V} (r : Rep C ρ H d v) : Fm C H0 ρ0 (σ.set i (.imm d)) (σV.set i (some v)) ρ g H := by
  have sp : ∀ (j : Nat) s ov, (σ.set i (.imm d))[j]? = some s → (σV.set i (some v))[j]? = some ov → (j = i ∧ s = .imm d ∧ ov = some v) ∨ (j ≠ i ∧ σ[j]? = some s ∧ σV[j]? = some ov) := fun j s ov h1 h2 => by
    by_cases e : j = i
    · subst e
      have l1 : j < σ.length := by simpa using (List.getElem?_eq_some_iff.mp h1).1
      have l2 : j < σV.length := by simpa using (List.getElem?_eq_some_iff.mp h2).1
      rw [List.getElem?_set_self l1] at h1
      rw [List.getElem?_set_self l2] at h2
      cases h1
      cases h2
      exact .inl ⟨rfl, rfl, rfl⟩
    · rw [List.getElem?_set_ne (Ne.symm e)] at h1 h2
      exact .inr ⟨e, h1, h2⟩
  refine ⟨by simp [F.len], fun j s ov h1 h2 => ?_, fun j k s t ov ow a h1 h2 h3 h4 h5 h6 => ?_, fun j s ov a h1 h2 h3 => ?_, F.ext, F.pre, F.nrh, F.sto⟩
  · rcases sp j s ov h1 h2 with ⟨_, rfl, rfl⟩ | ⟨_, q1, q2⟩
    · exact ⟨v, rfl, r⟩
    · exact F.rep j s ov q1 q2
  · rcases sp j s ov h1 h2 with ⟨_, rfl, rfl⟩ | ⟨_, q1, q2⟩
    · rw [own_imm] at h3; cases h3
    · rcases sp k t ow h4 h5 with ⟨_, rfl, rfl⟩ | ⟨_, q3, q4⟩
      · rw [own_imm] at h6; cases h6
      · exact F.sep j k s t ov ow a q1 q2 h3 q3 q4 h6
  · rcases sp j s ov h1 h2 with ⟨_, rfl, rfl⟩ | ⟨_, q1, q2⟩
    · rw [own_imm] at h3; cases h3
    · exact F.new j s ov a q1 q2 h3
/-- a slot is forgotten -/
theorem Fm.forget (F : Fm C H0 ρ0 σ σV ρ g H) {i : Nat} {ov' : Option V} : Fm C H0 ρ0 (σ.set i .un) (σV.set i ov') ρ g H := by
  have sp : ∀ (j : Nat) s ov, (σ.set i .un)[j]? = some s → (σV.set i ov')[j]? = some ov → (s = .un) ∨ (σ[j]? = some s ∧ σV[j]? = some ov) := fun j s ov h1 h2 => by
    by_cases e : j = i
    · subst e
      have l1 : j < σ.length := by simpa using (List.getElem?_eq_some_iff.mp h1).1
      rw [List.getElem?_set_self l1] at h1
      cases h1
      exact .inl rfl
    · rw [List.getElem?_set_ne (Ne.symm e)] at h1 h2
      exact .inr ⟨h1, h2⟩
  refine ⟨by simp [F.len], fun j s ov h1 h2 => ?_, fun j k s t ov ow a h1 h2 h3 h4 h5 h6 => ?_, fun j s ov a h1 h2 h3 => ?_, F.ext, F.pre, F.nrh, F.sto⟩
  · rcases sp j s ov h1 h2 with rfl | ⟨q1, q2⟩
    · trivial
    · exact F.rep j s ov q1 q2
  · rcases sp j s ov h1 h2 with rfl | ⟨q1, q2⟩
    · rw [own_un] at h3; cases h3
    · rcases sp k t ow h4 h5 with rfl | ⟨q3, q4⟩
      · rw [own_un] at h6; cases h6
      · exact F.sep j k s t ov ow a q1 q2 h3 q3 q4 h6
  · rcases sp j s ov h1 h2 with rfl | ⟨q1, q2⟩
    · rw [own_un] at h3; cases h3
    · exact F.new j s ov a q1 q2 h3
theorem Fm.forget1 (F : Fm C H0 ρ0 σ σV ρ g H) {i : Nat} : Fm C H0 ρ0 (σ.set i .un) σV ρ g H := by
  by_cases h : i < σV.length
  · have := Fm.forget F (i := i) (ov' := σV[i])
    rwa [List.set_getElem_self] at this
  · rw [List.set_eq_of_length_le (by rw [F.len]; omega)]
    exact F
theorem Fm.clear (F : Fm C H0 ρ0 σ σV ρ g H) : ∀ is : List Nat, Fm C H0 ρ0 (MC.clear is σ) σV ρ g H := fun is => by
  induction is generalizing σ with
  | nil => exact F
  | cons i is ih => exact ih F.forget1
theorem Fm.wipe (F : Fm C H0 ρ0 σ σV ρ g H) : ∀ is : List Nat, Fm C H0 ρ0 (MC.clear is σ) (wipe σV is) ρ g H := fun is => by
  induction is generalizing σ σV with
  | nil => exact F
  | cons i is ih =>
    have := ih (Fm.forget F (i := i) (ov' := none))
    have e : ∀ (l : List Nat) (σ : L2.St), L2.wipe (σ.set i none) l = (L2.wipe σ l).set i none := fun l => by
      induction l with
      | nil => intro σ; rfl
      | cons j l ih =>
        intro σ
        show (L2.wipe (σ.set i none) l).set j none = ((L2.wipe σ l).set j none).set i none
        rw [ih]
        by_cases q : i = j
        · subst q; rfl
        · rw [List.set_comm _ _ q]
    rw [e] at this
    exact this
mutual
theorem put_ok : ∀ {tg : Tg} {d : D} {σ σ' : List Sl} {σV : L2.St} {v : V} {Q : L2.St → Hp → Prop}, put tg d σ = some σ' → Fm C H0 ρ0 σ σV ρ g H → Rep C ρ H d v → (∀ σV', σV'.length = σV.length → Fm C H0 ρ0 σ' σV' ρ g H → Q σV' H) → gT C.K tg v σV H Q
  | .n i, d, σ, σ', σV, v, Q, e, F, r, h => by
    have e' : (if i < σ.length then some (σ.set i (.imm d)) else none) = some σ' := e
    split at e'
    · cases e'
      exact h _ (by simp) (F.set r)
    · cases e'
  | .t l, d, σ, σ', σV, v, Q, e, F, r, h => by
    cases d with
    | tup ds =>
      obtain ⟨a, vs, rfl, q, rs⟩ := r
      have e' : puts l ds σ = some σ' := e
      have hl : ds.length = l.length := puts_len e'
      exact ⟨a, vs, rfl, q, rs.len.trans hl, puts_ok e' F rs h⟩
    | _ => cases e
theorem puts_ok : ∀ {l : List Tg} {ds : List D} {σ σ' : List Sl} {σV : L2.St} {vs : List V} {Q : L2.St → Hp → Prop}, puts l ds σ = some σ' → Fm C H0 ρ0 σ σV ρ g H → Reps C ρ H ds vs → (∀ σV', σV'.length = σV.length → Fm C H0 ρ0 σ' σV' ρ g H → Q σV' H) → gTs C.K l vs σV H Q
  | [], ds, σ, σ', σV, vs, Q, e, F, r, h => by
    cases ds with
    | nil =>
      cases (Option.some.inj e : σ = σ')
      exact ⟨r, h _ rfl F⟩
    | cons _ _ => cases e
  | t :: l, ds, σ, σ', σV, vs, Q, e, F, r, h => by
    cases ds with
    | nil => cases e
    | cons d ds =>
      obtain ⟨v, w, rfl, r1, r2⟩ := r
      have e' : (put t d σ).bind (puts l ds) = some σ' := e
      obtain ⟨σ1, e1, e2⟩ := Option.bind_eq_some_iff.mp e'
      exact ⟨v, w, rfl, put_ok e1 F r1 fun σV1 l1 F1 => puts_ok e2 F1 r2 fun σV2 l2 F2 => h σV2 (l2.trans l1) F2⟩
end
end
end MC
namespace MC
open PySem PySem.Spec L2
/-- what a walk gives, while what stands still stands -/
structure Wk (C : Cn) (ρ : Rho) (J : L2.It) (items : List D) (H1 : Hp) : Prop where
  len : items.length ≤ sizeLine
  go : ∀ i H2, Keeps C.K H1 H2 → i < items.length → J.go i H2
  stop : ∀ H2, Keeps C.K H1 H2 → J.stop items.length H2
  yld : ∀ (i : Nat) H2 x H3 d, Keeps C.K H1 H2 → items[i]? = some d → J.yld i H2 x H3 → Grow H2 H3 ∧ ∀ ρ', ρ <+: ρ' → Rep C ρ' H3 d x
theorem Keeps.trans {K : PySem.W.Frag} {H H1 H2 : Hp} (a : Keeps K H H1) (b : Keeps K H1 H2) : Keeps K H H2 := ⟨fun x v h => b.tup x v (a.tup x v h), fun x v h => b.lst x v (a.lst x v h), fun x v h => b.scr x v (a.scr x v h)⟩
theorem Keeps.refl {K : PySem.W.Frag} (H : Hp) : Keeps K H H := ⟨fun _ _ h => h, fun _ _ h => h, fun _ _ h => h⟩
section
variable {C : Cn} {W : WX} {H0 : Hp} {ρ0 : Rho} {X : Cx} {σV : L2.St} {σ : List Sl} {ρ : Rho} {g : G} {H : Hp}
def liftI (C : Cn) (W : WX) (H0 : Hp) (ρ0 : Rho) (m : List Sl → M (List D)) : TI := fun σV H R => Run C W H0 ρ0 σV H m fun items ρ' H' => ∀ J, Wk C ρ' J items H' → R J H'
theorem PI.imp {tg e : Expr} {t t' : TI} (h : PI X tg e t) (k : ∀ σ H Q, t' σ H Q → t σ H Q) : PI X tg e t' := ⟨fun pins s σ H Q I hw => h.run pins s σ H Q I (k _ _ _ hw)⟩
theorem wk_list {a : Addr} {l : List D} {vs : List V} (hz : vs.length ≤ sizeLine) (q : FzL H a vs) (r : Reps C ρ H l vs) : Wk C ρ (Itl C.K a) l H := by
  have hl := r.len
  refine ⟨by omega, fun i H2 k hi => ?_, fun H2 k => ?_, fun i H2 x H3 d k e y => ?_⟩
  · exact ⟨vs, vs[i]'(by omega), FzL.sq (k.lst _ _ q), List.getElem?_eq_getElem (by omega)⟩
  · exact ⟨vs, FzL.sq (k.lst _ _ q), by omega⟩
  · obtain ⟨rfl, y⟩ := y
    obtain ⟨w, e1, rw'⟩ := r.get e
    have e2 := y vs (FzL.sq (k.lst _ _ q))
    rw [e1] at e2
    cases e2
    exact ⟨.refl _, fun ρ' p => rw'.to k p⟩
theorem wk_tup {a : Addr} {l : List D} {vs : List V} (hz : vs.length ≤ sizeLine) (q : SqT C.K H a vs) (r : Reps C ρ H l vs) : Wk C ρ (Itt C.K a) l H := by
  have hl := r.len
  refine ⟨by omega, fun i H2 k hi => ?_, fun H2 k => ?_, fun i H2 x H3 d k e y => ?_⟩
  · exact ⟨vs, vs[i]'(by omega), k.tup _ _ q, List.getElem?_eq_getElem (by omega)⟩
  · exact ⟨vs, k.tup _ _ q, by omega⟩
  · obtain ⟨rfl, y⟩ := y
    obtain ⟨w, e1, rw'⟩ := r.get e
    have e2 := y vs (k.tup _ _ q)
    rw [e1] at e2
    cases e2
    exact ⟨.refl _, fun ρ' p => rw'.to k p⟩
theorem rangeD_len (lo hi : Int) : (rangeD lo hi).length = (hi - lo).toNat := by simp [rangeD]
theorem wk_range {lo hi : Int} {n : Nat} (hz : (hi - lo).toNat ≤ sizeLine) (hn : n = (hi - lo).toNat) : Wk C ρ (Itr lo n) (rangeD lo hi) H := by
  subst hn
  refine ⟨by rw [rangeD_len]; exact hz, fun i H2 k hi => ?_, fun H2 k => ?_, fun i H2 x H3 d k e y => ?_⟩
  · rw [rangeD_len] at hi; exact hi
  · show _ ≤ (rangeD lo hi).length
    rw [rangeD_len]
    exact Nat.le_refl _
  · obtain ⟨rfl, rfl⟩ := y
    refine ⟨.refl _, fun ρ' p => ?_⟩
    unfold rangeD at e
    rw [List.getElem?_map] at e
    obtain ⟨j, e1, rfl⟩ := Option.map_eq_some_iff.mp e
    obtain ⟨h1, h2⟩ := List.getElem?_eq_some_iff.mp e1
    rw [List.getElem_range] at h2
    rw [h2]
    rfl
theorem enum_get : ∀ (l : List D) (k i : Nat), (enumFrom k l)[i]? = l[i]?.map fun d => .tup [.int ((k + i : Nat) : Int), d]
  | [], k, i => by simp [enumFrom]
  | d :: l, k, 0 => by simp [enumFrom]
  | d :: l, k, i + 1 => by
    rw [enumFrom, List.getElem?_cons_succ, List.getElem?_cons_succ, enum_get l (k + 1) i, show k + 1 + i = k + (i + 1) by omega]
theorem enum_len (l : List D) (k : Nat) : (enumFrom k l).length = l.length := by
  induction l generalizing k with
  | nil => rfl
  | cons d l ih => rw [enumFrom, List.length_cons, List.length_cons, ih]
theorem wk_enumL {a : Addr} {l : List D} {vs : List V} (hz : vs.length ≤ sizeLine) (q : FzL H a vs) (r : Reps C ρ H l vs) : Wk C ρ (Ite C.K a) (enumFrom 0 l) H := by
  have hl := r.len
  refine ⟨by rw [enum_len]; omega, fun i H2 k hi => ?_, fun H2 k => ?_, fun i H2 x H3 d k e y => ?_⟩
  · rw [enum_len] at hi
    exact ⟨vs, vs[i]'(by omega), FzL.sq (k.lst _ _ q), List.getElem?_eq_getElem (by omega)⟩
  · exact ⟨vs, FzL.sq (k.lst _ _ q), by rw [enum_len]; omega⟩
  · obtain ⟨T, y, rfl, nT, rfl, hy⟩ := y
    rw [enum_get] at e
    obtain ⟨d', e1, rfl⟩ := Option.map_eq_some_iff.mp e
    obtain ⟨w, e2, rw'⟩ := r.get e1
    have e3 := hy vs (FzL.sq (k.lst _ _ q))
    rw [e2] at e3
    cases e3
    refine ⟨Grow.upd nT, fun ρ' p => ⟨T, _, rfl, SqT.of upd_same, _, _, rfl, ?_, _, _, rfl, (rw'.to k p).grow (Grow.upd nT), rfl⟩⟩
    show V.int _ = V.int _
    rw [Nat.zero_add]
theorem wk_enumT {a : Addr} {l : List D} {vs : List V} (hz : vs.length ≤ sizeLine) (q : SqT C.K H a vs) (r : Reps C ρ H l vs) : Wk C ρ (IteT C.K a) (enumFrom 0 l) H := by
  have hl := r.len
  refine ⟨by rw [enum_len]; omega, fun i H2 k hi => ?_, fun H2 k => ?_, fun i H2 x H3 d k e y => ?_⟩
  · rw [enum_len] at hi
    exact ⟨vs, vs[i]'(by omega), k.tup _ _ q, List.getElem?_eq_getElem (by omega)⟩
  · exact ⟨vs, k.tup _ _ q, by rw [enum_len]; omega⟩
  · obtain ⟨T, y, rfl, nT, rfl, hy⟩ := y
    rw [enum_get] at e
    obtain ⟨d', e1, rfl⟩ := Option.map_eq_some_iff.mp e
    obtain ⟨w, e2, rw'⟩ := r.get e1
    have e3 := hy vs (k.tup _ _ q)
    rw [e2] at e3
    cases e3
    refine ⟨Grow.upd nT, fun ρ' p => ⟨T, _, rfl, SqT.of upd_same, _, _, rfl, ?_, _, _, rfl, (rw'.to k p).grow (Grow.upd nT), rfl⟩⟩
    show V.int _ = V.int _
    rw [Nat.zero_add]
theorem zip_get : ∀ (l m : List D) (i : Nat) (d : D), (zipD l m)[i]? = some d → ∃ a b, l[i]? = some a ∧ m[i]? = some b ∧ d = .tup [a, b]
  | [], m, i, d, h => by simp [zipD] at h
  | a :: l, [], i, d, h => by simp [zipD] at h
  | a :: l, b :: m, 0, d, h => by
    simp [zipD] at h
    exact ⟨a, b, rfl, rfl, h.symm⟩
  | a :: l, b :: m, i + 1, d, h => by
    rw [zipD, List.getElem?_cons_succ] at h
    obtain ⟨x, y, h1, h2, h3⟩ := zip_get l m i d h
    exact ⟨x, y, by simpa using h1, by simpa using h2, h3⟩
theorem zip_len : ∀ l m : List D, (zipD l m).length = min l.length m.length
  | [], m => by simp [zipD]
  | a :: l, [] => by simp [zipD]
  | a :: l, b :: m => by
    rw [zipD, List.length_cons, List.length_cons, List.length_cons, zip_len l m]
    omega
theorem wk_zipL {a b : Addr} {l m : List D} {vs ws : List V} (hz : vs.length ≤ sizeLine) (q : FzL H a vs) (r : Reps C ρ H l vs) (q' : FzL H b ws) (r' : Reps C ρ H m ws) : Wk C ρ (Itz C.K a b) (zipD l m) H := by
  have hl := r.len
  have hl' := r'.len
  refine ⟨by rw [zip_len]; omega, fun i H2 k hi => ?_, fun H2 k => ?_, fun i H2 x H3 d k e y => ?_⟩
  · rw [zip_len] at hi
    exact ⟨vs, ws, vs[i]'(by omega), ws[i]'(by omega), FzL.sq (k.lst _ _ q), FzL.sq (k.lst _ _ q'), List.getElem?_eq_getElem (by omega), List.getElem?_eq_getElem (by omega)⟩
  · exact ⟨vs, ws, FzL.sq (k.lst _ _ q), FzL.sq (k.lst _ _ q'), by rw [zip_len]; omega⟩
  · obtain ⟨T, y, z, rfl, nT, rfl, hy, hz⟩ := y
    obtain ⟨d1, d2, e1, e2, rfl⟩ := zip_get l m i d e
    obtain ⟨w, e3, rw'⟩ := r.get e1
    obtain ⟨w2, e4, rw2⟩ := r'.get e2
    have e5 := hy vs (FzL.sq (k.lst _ _ q))
    have e6 := hz ws (FzL.sq (k.lst _ _ q'))
    rw [e3] at e5
    rw [e4] at e6
    cases e5
    cases e6
    exact ⟨Grow.upd nT, fun ρ' p => ⟨T, _, rfl, SqT.of upd_same, _, _, rfl, (rw'.to k p).grow (Grow.upd nT), _, _, rfl, (rw2.to k p).grow (Grow.upd nT), rfl⟩⟩
theorem wk_zipT {a b : Addr} {l m : List D} {vs ws : List V} (hz : vs.length ≤ sizeLine) (q : SqT C.K H a vs) (r : Reps C ρ H l vs) (q' : SqT C.K H b ws) (r' : Reps C ρ H m ws) : Wk C ρ (RZ.ItzT C.K a b) (zipD l m) H := by
  have hl := r.len
  have hl' := r'.len
  refine ⟨by rw [zip_len]; omega, fun i H2 k hi => ?_, fun H2 k => ?_, fun i H2 x H3 d k e y => ?_⟩
  · rw [zip_len] at hi
    exact ⟨vs, ws, vs[i]'(by omega), ws[i]'(by omega), k.tup _ _ q, k.tup _ _ q', List.getElem?_eq_getElem (by omega), List.getElem?_eq_getElem (by omega)⟩
  · exact ⟨vs, ws, k.tup _ _ q, k.tup _ _ q', by rw [zip_len]; omega⟩
  · obtain ⟨T, y, z, rfl, nT, rfl, hy, hz⟩ := y
    obtain ⟨d1, d2, e1, e2, rfl⟩ := zip_get l m i d e
    obtain ⟨w, e3, rw'⟩ := r.get e1
    obtain ⟨w2, e4, rw2⟩ := r'.get e2
    have e5 := hy vs (k.tup _ _ q)
    have e6 := hz ws (k.tup _ _ q')
    rw [e3] at e5
    rw [e4] at e6
    cases e5
    cases e6
    exact ⟨Grow.upd nT, fun ρ' p => ⟨T, _, rfl, SqT.of upd_same, _, _, rfl, (rw'.to k p).grow (Grow.upd nT), _, _, rfl, (rw2.to k p).grow (Grow.upd nT), rfl⟩⟩
/-! ### the walked things -/
/-- no list is longer than the line -/
def LenOk (K : PySem.W.Frag) (H : Hp) : Prop := ∀ a xs, SqL K H a xs ∨ SqT K H a xs → xs.length ≤ sizeLine
theorem inv_len {pins : List (Addr × Obj)} {s : Shared} (I : L2.Inv X pins σV H s) : LenOk X.K H := fun a xs h => by
  rcases h with h | h
  · obtain ⟨_, _, _, z⟩ := I.list h
    exact z
  · obtain ⟨_, _, _, z⟩ := I.tuple h
    exact z
theorem PE.lenH {e : Expr} {t : TE} (h : PE X e t) : PE X e (fun σ H Q => t σ H fun v H1 => LenOk X.K H1 → Q v H1) :=
  ⟨fun pins s σ H Q I hw => thn (h.run pins s σ H _ I hw) fun _ _ ⟨v, H', I', r, q⟩ => ⟨v, H', I', r, q (inv_len I')⟩⟩
open PyProof.Rows in
theorem pi_seqA {tg l : Expr} {tl : TE} (hl : PE X l tl) : PI X tg l (fun σ H R => tl σ H fun x H1 => ∃ a xs, x = .ref a ∧ ((SqL X.K H1 a xs ∧ R (Itl X.K a) H1) ∨ (SqT X.K H1 a xs ∧ R (Itt X.K a) H1))) := by
  refine ⟨fun pins s σ H R I h => ?_⟩
  refine thn (hl.run pins s σ H _ I h) fun v s1 ⟨x, H1, I1, r1, q1⟩ => ?_
  obtain ⟨a, xs, e, q⟩ := q1
  subst e
  cases r1
  have fp : ∀ b ∈ [s1.heap.objs.size], FpOk X pins H1 b := fun b hb => by
    have e : b = s1.heap.objs.size := by simpa using hb
    subst e
    exact I1.fpOk (Nat.le_refl _) (I1.hok.fresh (Nat.le_refl _))
  rcases q with ⟨hq, q⟩ | ⟨hq, q⟩
  · obtain ⟨its, rv, p, hz⟩ := I1.list hq
    refine wpAny_pyIter_list p.isList ?_
    exact ⟨s1.heap.objs.size, [s1.heap.objs.size], _, _, H1, rfl, I1.kept (t' := s1.toks) fun b o e => Heap.get?_push_of_some _ e, turn_list a _, ⟨_, Heap.get?_push_size _ rfl, rfl, rfl⟩, fp, q⟩
  · obtain ⟨its, rv, p, hz⟩ := I1.tuple hq
    refine wpAny_pyIter_tuple (show s1.heap.IsTuple a its.toArray from p) ?_
    exact ⟨s1.heap.objs.size, [s1.heap.objs.size], _, _, H1, rfl, I1.kept (t' := s1.toks) fun b o e => Heap.get?_push_of_some _ e, turn_tuple a _, ⟨_, Heap.get?_push_size _ rfl, rfl, rfl⟩, fp, q⟩
theorem sI_e {tg e : Expr} {m : List Sl → M D} (hK : X.K = C.K) (h : PE X e (lift C W H0 ρ0 m)) : PI X tg e (liftI C W H0 ρ0 fun σ => M.bind (m σ) fun x => M.opt (walkE x)) := by
  refine PI.imp (pi_seqA (PE.lenH h)) fun σV H Q h => ?_
  obtain ⟨σ, ρ, g, h⟩ := h
  refine ⟨σ, ρ, g, At.bind h fun x ρ1 H1 g1 s1 h1 v rv lo => ?_⟩
  obtain ⟨l, e, F1, hk⟩ := At.opt h1
  rw [hK] at lo
  rw [hK]
  cases x with
  | tup l' =>
    cases (Option.some.inj e : l' = l)
    obtain ⟨a, vs, rfl, q, r⟩ := rv
    exact ⟨a, vs, rfl, .inr ⟨q, hk ρ1 H1 F1 (.refl _ _) _ (wk_tup (lo _ _ (.inr q)) q r)⟩⟩
  | lst l' =>
    cases (Option.some.inj e : l' = l)
    obtain ⟨a, vs, rfl, q, r⟩ := rv
    exact ⟨a, vs, rfl, .inl ⟨FzL.sq q, hk ρ1 H1 F1 (.refl _ _) _ (wk_list (lo _ _ (.inl (FzL.sq q))) q r)⟩⟩
  | _ => cases e
theorem lim62_eq : lim62 = 2 ^ 62 := by decide
theorem sI_rng1 {tg a : Expr} {ms : List Sl → M (List D)} {p pos : Pos} (ok : okE a = true) (hg : Gl X "range") (hm : X.mg "range" = none) (ha : PA X [a] (liftA C W H0 ρ0 ms)) (len : ∀ σ g ds g', ms σ g = some (.ok ds, g') → ds.length = 1) :
    PI X tg (.Call (.Name "range" p) [a] [] pos) (liftI C W H0 ρ0 fun σ => M.bind (ms σ) fun ds => M.opt (walkR ds)) := by
  refine PI.imp (pi_range1 hg hm ha (star_of ok _ _)) fun σV H Q h => ?_
  obtain ⟨σ, ρ, g, Fr, r, g', hm, hq⟩ := h
  rcases bind_some hm with ⟨c, h1, rfl⟩ | ⟨ds, g1, h1, h2⟩
  · exact ⟨σ, ρ, g, Fr, .ex c, g', h1, hq⟩
  · refine ⟨σ, ρ, g, Fr, .ok ds, g1, h1, fun ρ1 H1 F1 s1 vs rv => ?_⟩
    obtain ⟨items, e, rfl, rfl⟩ := opt_some h2
    have l1 := len σ g ds _ h1
    match ds, e, l1 with
    | [.int j], e, _ =>
      have e' : (if -lim62 ≤ j ∧ j < lim62 ∧ j ≤ 16777216 then some (rangeD 0 j) else none) = some items := e
      split at e'
      · rename_i hz
        cases e'
        rw [lim62_eq] at hz
        obtain ⟨v, rfl, hv⟩ := reps1 rv
        exact ⟨j, by rw [show v = .int j from hv], hz.1, hz.2.1, hq ρ1 H1 F1 s1 _ (wk_range (by rw [sizeLine_eq]; omega) (by simp))⟩
      · cases e'
theorem sI_rng2 {tg a b : Expr} {ms : List Sl → M (List D)} {p pos : Pos} (ok : okE a = true) (ok2 : okE b = true) (hg : Gl X "range") (hm : X.mg "range" = none) (ha : PA X [a, b] (liftA C W H0 ρ0 ms)) (len : ∀ σ g ds g', ms σ g = some (.ok ds, g') → ds.length = 2) :
    PI X tg (.Call (.Name "range" p) [a, b] [] pos) (liftI C W H0 ρ0 fun σ => M.bind (ms σ) fun ds => M.opt (walkR ds)) := by
  refine PI.imp (pi_range2 hg hm ha (by rw [star_of ok, star_of ok2]; rfl) (star_of ok2 _ _)) fun σV H Q h => ?_
  obtain ⟨σ, ρ, g, Fr, r, g', hm, hq⟩ := h
  rcases bind_some hm with ⟨c, h1, rfl⟩ | ⟨ds, g1, h1, h2⟩
  · exact ⟨σ, ρ, g, Fr, .ex c, g', h1, hq⟩
  · refine ⟨σ, ρ, g, Fr, .ok ds, g1, h1, fun ρ1 H1 F1 s1 vs rv => ?_⟩
    obtain ⟨items, e, rfl, rfl⟩ := opt_some h2
    have l1 := len σ g ds _ h1
    match ds, e, l1 with
    | [.int i, .int j], e, _ =>
      have e' : (if (-lim62 ≤ i ∧ i < lim62) ∧ -lim62 ≤ j ∧ j < lim62 ∧ j - i ≤ 16777216 then some (rangeD i j) else none) = some items := e
      split at e'
      · rename_i hz
        cases e'
        rw [lim62_eq] at hz
        obtain ⟨v, w, rfl, hv, hw⟩ := reps2 rv
        exact ⟨i, j, by rw [show v = .int i from hv, show w = .int j from hw], ⟨hz.1.1, hz.1.2, hz.2.1, hz.2.2.1⟩, hq ρ1 H1 F1 s1 _ (wk_range (by rw [sizeLine_eq]; omega) rfl)⟩
      · cases e'
open PyProof.Rows in
theorem pi_enumA {e : Expr} {ta : TA} {p pos tpos : Pos} {elts : List Expr} {kk : Nat} (hg : Gl X "enumerate") (hm : X.mg "enumerate" = none) (ha : PA X [e] ta) (hs : starEach [e] X.env = [(false, eval e X.env)]) :
    PI X (.Tuple elts kk tpos) (.Call (.Name "enumerate" p) [e] [] pos) (fun σ H R => ta σ H fun vs H1 => ∃ a xs, vs = [.ref a] ∧ ((SqL X.K H1 a xs ∧ R (Ite X.K a) H1) ∨ (SqT X.K H1 a xs ∧ R (IteT X.K a) H1))) := by
  refine ⟨fun pins s σ H R I h => ?_⟩
  refine Call_ (ld_blt I hg hm boot_enumerate (PyProof.Rows.callWith_type1 (thn (ha.run pos pins s σ H _ I h) fun us s1 ⟨vs, H1, I1, r1, q1⟩ => ?_) hs rfl))
  obtain ⟨a, xs, ex, q⟩ := q1
  subst ex
  cases r1 with
  | cons r rr =>
    cases rr
    cases r
    have fp : ∀ b ∈ [s1.heap.objs.size + 1, s1.heap.objs.size], FpOk X pins H1 b := fun b hb => by
      have e' : b = s1.heap.objs.size + 1 ∨ b = s1.heap.objs.size := by simpa using hb
      have hle : s1.heap.objs.size ≤ b := by
        rcases e' with z | z
        · rw [z]; exact Nat.le_add_right _ _
        · rw [z]; exact Nat.le_refl _
      exact I1.fpOk hle (I1.hok.fresh hle)
    rcases q with ⟨hq, q⟩ | ⟨hq, q⟩
    · obtain ⟨its, rv, p', hz⟩ := I1.list hq
      refine call_enumerate_list p'.isList fun h' he hit hsz hk => wpAny_pyIter_enum he ?_
      exact ⟨s1.heap.objs.size + 1, [s1.heap.objs.size + 1, s1.heap.objs.size], _, _, H1, rfl, I1.kept (t' := s1.toks) hk, turn_enum a (s1.heap.objs.size + 1) s1.heap.objs.size, ⟨⟨.none, he⟩, hit, Nat.succ_ne_self _⟩, fp, q⟩
    · obtain ⟨its, rv, p', hz⟩ := I1.tuple hq
      refine call_enumT p' fun h' he hit hsz hk => wpAny_pyIter_enum he ?_
      exact ⟨s1.heap.objs.size + 1, [s1.heap.objs.size + 1, s1.heap.objs.size], _, _, H1, rfl, I1.kept (t' := s1.toks) hk, turn_enumT a (s1.heap.objs.size + 1) s1.heap.objs.size, ⟨⟨.none, he⟩, hit, Nat.succ_ne_self _⟩, fp, q⟩
theorem sI_enum {elts : List Expr} {kk : Nat} {tpos : Pos} {a : Expr} {m : List Sl → M D} {p pos : Pos} (hK : X.K = C.K) (ok : okE a = true) (hg : Gl X "enumerate") (hm : X.mg "enumerate" = none) (h : PE X a (lift C W H0 ρ0 m)) :
    PI X (.Tuple elts kk tpos) (.Call (.Name "enumerate" p) [a] [] pos) (liftI C W H0 ρ0 fun σ => M.bind (m σ) fun x => M.opt ((walkE x).map (enumFrom 0))) := by
  refine PI.imp (pi_enumA hg hm (pa_cons (PE.lenH h) pa_nil (star_of ok _ _)) (star_of ok _ _)) fun σV H Q h => ?_
  obtain ⟨σ, ρ, g, h⟩ := h
  refine ⟨σ, ρ, g, At.bind h fun x ρ1 H1 g1 s1 h1 v rv lo => ?_⟩
  obtain ⟨l, e, F1, hk⟩ := At.opt h1
  rw [hK] at lo
  obtain ⟨l0, e0, rfl⟩ := Option.map_eq_some_iff.mp e
  rw [hK]
  cases x with
  | tup l' =>
    cases (Option.some.inj e0 : l' = l0)
    obtain ⟨a, vs, rfl, q, r⟩ := rv
    exact ⟨a, vs, rfl, .inr ⟨q, hk ρ1 H1 F1 (.refl _ _) _ (wk_enumT (lo _ _ (.inr q)) q r)⟩⟩
  | lst l' =>
    cases (Option.some.inj e0 : l' = l0)
    obtain ⟨a, vs, rfl, q, r⟩ := rv
    exact ⟨a, vs, rfl, .inl ⟨FzL.sq q, hk ρ1 H1 F1 (.refl _ _) _ (wk_enumL (lo _ _ (.inl (FzL.sq q))) q r)⟩⟩
  | _ => cases e0
theorem sI_zip {elts : List Expr} {kk : Nat} {tpos : Pos} {a b : Expr} {ma mb : List Sl → M D} {p pos : Pos} (hK : X.K = C.K) (ok : okE a = true) (ok2 : okE b = true) (hg : Gl X "zip") (hm : X.mg "zip" = none) (ha : PE X a (lift C W H0 ρ0 ma)) (hb : PE X b (lift C W H0 ρ0 mb)) :
    PI X (.Tuple elts kk tpos) (.Call (.Name "zip" p) [a, b] [] pos) (liftI C W H0 ρ0 fun σ => M.bind (ma σ) fun x => M.bind (mb σ) fun y => M.opt (walkZ x y)) := by
  refine PI.imp (RZ.pi_zipA hg hm (pa_cons ha (pa_cons (PE.lenH hb) pa_nil (star_of ok2 _ _)) (star_of ok _ _)) (star_of ok _ _) (stars_of (by simp [ok2]) _ _)) fun σV H Q h => ?_
  obtain ⟨σ, ρ, g, h⟩ := h
  refine ⟨σ, ρ, g, At.bind h fun x ρ1 H1 g1 s1 h1 v rv => ?_⟩
  have F1 := h1.1
  refine ⟨σ, ρ1, g1, At.bind h1 fun y ρ2 H2 g2 s2 h2 w rw' lo => ?_⟩
  rw [hK] at lo
  obtain ⟨l, e, F2, hk⟩ := At.opt h2
  have rv := rv.to (s2.keeps F1.rok) s2.pre
  rw [hK]
  match x, y, e with
  | .tup l1, .tup l2, e =>
    cases (Option.some.inj e : zipD l1 l2 = l)
    obtain ⟨a, vs, rfl, q, r⟩ := rv
    obtain ⟨a2, vs2, rfl, q2, r2⟩ := rw'
    exact ⟨a, a2, vs, vs2, rfl, .inr ⟨q, q2, hk ρ2 H2 F2 (.refl _ _) _ (wk_zipT (lo _ _ (.inr q)) q r q2 r2)⟩⟩
  | .lst l1, .lst l2, e =>
    cases (Option.some.inj e : zipD l1 l2 = l)
    obtain ⟨a, vs, rfl, q, r⟩ := rv
    obtain ⟨a2, vs2, rfl, q2, r2⟩ := rw'
    exact ⟨a, a2, vs, vs2, rfl, .inl ⟨FzL.sq q, FzL.sq q2, hk ρ2 H2 F2 (.refl _ _) _ (wk_zipL (lo _ _ (.inl (FzL.sq q))) q r q2 r2)⟩⟩
end
end MC
namespace MC
open PySem PySem.Spec L2
mutual
def tgSlots : Tg → List Nat
  | .n i => [i]
  | .t l => tgsSlots l
def tgsSlots : List Tg → List Nat
  | [] => []
  | t :: l => tgSlots t ++ tgsSlots l
end
theorem wipe_set (i : Nat) (v : Option V) : ∀ (own : List Nat) (σ : L2.St), i ∈ own → wipe (σ.set i v) own = wipe σ own
  | j :: own, σ, h => by
    show (wipe (σ.set i v) own).set j none = (wipe σ own).set j none
    by_cases e : i ∈ own
    · rw [wipe_set i v own σ e]
    · have ej : i = j := by
        rcases List.mem_cons.mp h with z | z
        · exact z
        · exact absurd z e
      subst ej
      have : ∀ (l : List Nat) (σ : L2.St), i ∉ l → wipe (σ.set i v) l = (wipe σ l).set i v := fun l => by
        induction l with
        | nil => intro σ _; rfl
        | cons k l ih =>
          intro σ hn
          show (wipe (σ.set i v) l).set k none = ((wipe σ l).set k none).set i v
          have h1 : i ≠ k := fun z => hn (by rw [z]; exact List.mem_cons_self)
          rw [ih σ (fun z => hn (List.mem_cons_of_mem _ z)), List.set_comm _ _ h1]
      rw [this own σ e, List.set_set]
theorem wipe_wipe : ∀ (own l : List Nat) (σ : L2.St), (∀ i ∈ l, i ∈ own) → wipe (wipe σ l) own = wipe σ own
  | own, [], σ, _ => rfl
  | own, j :: l, σ, h => by
    show wipe ((wipe σ l).set j none) own = wipe σ own
    rw [wipe_set j none own _ (h j List.mem_cons_self)]
    exact wipe_wipe own l σ fun i hi => h i (List.mem_cons_of_mem _ hi)
section
variable {C : Cn} {W : WX} {H0 : Hp} {ρ0 : Rho} {X : Cx} {σV : L2.St} {σ : List Sl} {ρ : Rho} {g : G} {H : Hp}
mutual
theorem put_okW : ∀ {tg : Tg} {own : List Nat} {d : D} {σ σ' : List Sl} {σV : L2.St} {v : V} {Q : L2.St → Hp → Prop}, (∀ i ∈ tgSlots tg, i ∈ own) → put tg d σ = some σ' → Fm C H0 ρ0 σ σV ρ g H → Rep C ρ H d v → (∀ σV', wipe σV' own = wipe σV own → Fm C H0 ρ0 σ' σV' ρ g H → Q σV' H) → gT C.K tg v σV H Q
  | .n i, own, d, σ, σ', σV, v, Q, hin, e, F, r, h => by
    have e' : (if i < σ.length then some (σ.set i (.imm d)) else none) = some σ' := e
    split at e'
    · cases e'
      exact h _ (wipe_set i _ own σV (hin i (List.mem_singleton.mpr rfl))) (F.set r)
    · cases e'
  | .t l, own, d, σ, σ', σV, v, Q, hin, e, F, r, h => by
    cases d with
    | tup ds =>
      obtain ⟨a, vs, rfl, q, rs⟩ := r
      have e' : puts l ds σ = some σ' := e
      have hl : ds.length = l.length := puts_len e'
      exact ⟨a, vs, rfl, q, rs.len.trans hl, puts_okW hin e' F rs h⟩
    | _ => cases e
theorem puts_okW : ∀ {l : List Tg} {own : List Nat} {ds : List D} {σ σ' : List Sl} {σV : L2.St} {vs : List V} {Q : L2.St → Hp → Prop}, (∀ i ∈ tgsSlots l, i ∈ own) → puts l ds σ = some σ' → Fm C H0 ρ0 σ σV ρ g H → Reps C ρ H ds vs → (∀ σV', wipe σV' own = wipe σV own → Fm C H0 ρ0 σ' σV' ρ g H → Q σV' H) → gTs C.K l vs σV H Q
  | [], own, ds, σ, σ', σV, vs, Q, hin, e, F, r, h => by
    cases ds with
    | nil =>
      cases (Option.some.inj e : σ = σ')
      exact ⟨r, h _ rfl F⟩
    | cons _ _ => cases e
  | t :: l, own, ds, σ, σ', σV, vs, Q, hin, e, F, r, h => by
    cases ds with
    | nil => cases e
    | cons d ds =>
      obtain ⟨v, w, rfl, r1, r2⟩ := r
      have e' : (put t d σ).bind (puts l ds) = some σ' := e
      obtain ⟨σ1, e1, e2⟩ := Option.bind_eq_some_iff.mp e'
      exact ⟨v, w, rfl, put_okW (fun i hi => hin i (List.mem_append_left _ hi)) e1 F r1 fun σV1 l1 F1 => puts_okW (fun i hi => hin i (List.mem_append_right _ hi)) e2 F1 r2 fun σV2 l2 F2 => h σV2 (l2.trans l1) F2⟩
end
/-! ### an object that was not there at first is changed -/
theorem Stp.upd {ρ ρ' : Rho} {H H' : Hp} {p : Addr} {o : HO} (s : Stp ρ H ρ' H') (n : H p = none) : Stp ρ H ρ' (upd H' p o) :=
  ⟨⟨fun b u e nr nt => by rw [upd_ne (ne_of_none e n)]; exact s.ext.at_ b u e nr nt, fun b u e nr t => by rw [upd_ne (ne_of_none e n)]; exact s.ext.tbl b u e nr t⟩, s.pre, s.new⟩
theorem Sto.upd {ρ : Rho} {g : G} {H : Hp} {p : Addr} {o u : HO} (s : Sto ρ g H) (e : H p = some u) (n : ∀ kvs, u ≠ .dK kvs) : Sto ρ g (L2.upd H p o) :=
  s.same fun b z => upd_ne (fun q => tup_not s.rok e n (by rw [← q]; exact z))
theorem keeps_upd {K : PySem.W.Frag} {H : Hp} {p : Addr} {o : HO} {vs : List V} (e : H p = some (.lst vs)) : Keeps K H (upd H p o) :=
  Keeps.mk' (fun a xs h => by rw [upd_ne (ne_of h e (fun z => by cases z))]; exact h) fun a ob u h => by rw [upd_ne (ne_of h e (fun z => by cases z))]; exact h
/-- a new list comes: it may be changed later -/
def liftN (C : Cn) (W : WX) (H0 : Hp) (ρ0 : Rho) (m : List Sl → M (List D)) : TE := fun σV H Q => ∃ σ ρ g, Fm C H0 ρ0 σ σV ρ g H ∧ ∃ r g', m σ g = some (r, g') ∧ match r with
  | .ok ds => ∀ p vs ρ' H', H p = none → Stp ρ H ρ' H' → Sto ρ' g' H' → H' p = some (.lst vs) → Reps C ρ' H' ds vs → Q (.ref p) H'
  | .ex c => ∀ ρ' H', Fm C H0 ρ0 σ σV ρ' g' H' → W (.ref (He.ga C.K c)) none σV H'
/-- .. it is taken for good -/
theorem sE_fz {e : Expr} {m : List Sl → M (List D)} (h : PE X e (liftN C W H0 ρ0 m)) : PE X e (lift C W H0 ρ0 fun σ => M.bind (m σ) fun ds => M.pure (.lst ds)) := by
  refine PE.imp (PE.frz h) fun σV H Q h => ?_
  obtain ⟨σ, ρ, g, F, r, g', hm, hk⟩ := h
  rcases bind_some hm with ⟨c, h1, rfl⟩ | ⟨ds, g1, h1, h2⟩
  · exact ⟨σ, ρ, g, F, .ex c, g', h1, hk⟩
  · obtain ⟨rfl, rfl⟩ := pure_some h2
    refine ⟨σ, ρ, g, F, .ok ds, g', h1, fun p vs ρ' H' hp st so e rv => ⟨p, vs, rfl, e, fun o => ?_⟩⟩
    exact hk ρ' _ (F.step (st.upd hp) (so.upd e (fun _ z => by cases z))) (st.upd hp) _ ⟨p, vs, rfl, fz_at, rv.to (keeps_upd e) (List.prefix_refl _)⟩
theorem drop_cons {α : Type} : ∀ (l : List α) (i : Nat) (d : α), l[i]? = some d → l.drop i = d :: l.drop (i + 1)
  | [], i, d, h => by simp at h
  | x :: l, 0, d, h => by simp at h; subst h; rfl
  | x :: l, i + 1, d, h => by
    rw [List.drop_succ_cons, List.drop_succ_cons]
    exact drop_cons l i d (by simpa using h)
def W0 : WX := fun _ _ _ _ => False
/-- the turns of a comprehension -/
theorem comp_turns {tg : Tg} {own : List Nat} {test : List Sl → M Bool} {elt : List Sl → M D} {Q : VK} {ρ1 : Rho} {H1 : Hp} {g1 g' : G} {items ds : List D} {J : L2.It} {Dd : Addr} (hin : ∀ i ∈ tgSlots tg, i ∈ own)
    (F1 : Fm C H0 ρ0 σ σV ρ1 g1 H1) (hJ : Wk C ρ1 J items H1) (nD : H1 Dd = none) (hc : compL tg test elt (clear own σ) items g1 = some (.ok ds, g'))
    (hQ : ∀ ρ' H' vs, Stp ρ1 H1 ρ' H' → Sto ρ' g' H' → H' Dd = some (.lst vs) → Reps C ρ' H' ds vs → Q (.ref Dd) H') :
    ∃ Wv : Nat → Nat → Hp → Prop, (∃ m, Wv 0 m (upd H1 Dd (.lst []))) ∧ ∀ i m H, Wv i m H →
      (J.stop i H ∧ Q (.ref Dd) H) ∨ (J.go i H ∧ ∃ Nx : Hp → Prop, (∀ H', Nx H' → ∃ m', m' < m ∧ Wv (i + 1) m' H') ∧ ∀ x H', J.yld i H x H' → gT C.K tg x (wipe σV own) H' fun σ2 H2 => wipe σ2 own = wipe σV own ∧ liftT C W0 H0 ρ0 test σ2 H2 fun b H3 =>
        if b = true then lift C W0 H0 ρ0 elt σ2 H3 fun y H4 => ∃ acc, H4 Dd = some (.lst acc) ∧ acc.length < sizeLine ∧ Nx (upd H4 Dd (.lst (acc ++ [y]))) else Nx H3) := by
  have Fw : Fm C H0 ρ0 (clear own σ) (wipe σV own) ρ1 g1 H1 := F1.wipe own
  let St (i : Nat) (H : Hp) : Prop := ∃ ρi gi accD accV restD, Stp ρ1 H1 ρi H ∧ Sto ρi gi H ∧ H Dd = some (.lst accV) ∧ Reps C ρi H accD accV ∧ accD.length ≤ i ∧ compL tg test elt (clear own σ) (items.drop i) gi = some (.ok restD, g') ∧ accD ++ restD = ds
  refine ⟨fun i m H => m = items.length - i ∧ i ≤ items.length ∧ St i H, ⟨items.length, by simp, Nat.zero_le _, ρ1, g1, [], [], ds, (Stp.refl _ _).upd nD, F1.sto.grow (Grow.upd nD), upd_same, rfl, Nat.le_refl _, by simpa using hc, rfl⟩, ?_⟩
  rintro i m Hh ⟨rfl, hi, ρi, gi, accD, accV, restD, st, so, eD, ra, la, hr, ed⟩
  have hke : Keeps C.K H1 Hh := st.keeps F1.rok
  by_cases hlt : i < items.length
  · have hd : items[i]? = some items[i] := List.getElem?_eq_getElem hlt
    rw [drop_cons items i _ hd] at hr
    rcases bind_some hr with ⟨c, _, z⟩ | ⟨σ', g2, h1, h2⟩
    · cases z
    obtain ⟨σ'', e1, ez, eg⟩ := opt_some h1
    cases ez
    subst eg
    rcases bind_some h2 with ⟨c, _, z⟩ | ⟨t, g3, h3, h4⟩
    · cases z
    refine .inr ⟨hJ.go i Hh hke hlt, St (i + 1), fun H' s' => ⟨items.length - (i + 1), by omega, rfl, hlt, s'⟩, fun x H' y => ?_⟩
    obtain ⟨gr, rx⟩ := hJ.yld i Hh x H' _ hke hd y
    have Fi : Fm C H0 ρ0 (clear own σ) (wipe σV own) ρi g2 H' := Fw.step (st.trans (.of _ gr)) (so.grow gr)
    refine put_okW hin e1 Fi (rx ρi st.pre) fun σ2 hw F2 => ⟨hw.trans (wipe_wipe own own σV fun _ h => h), σ', ρi, g2, F2, .ok t, g3, h3, fun ρ3 H3 F3 s3 => ?_⟩
    have s13 : Stp ρ1 H1 ρ3 H3 := (st.trans (.of _ gr)).trans s3
    have nr : ¬ inRho ρi Dd := tup_not so.rok eD (fun _ z => by cases z)
    have eD3 : H3 Dd = some (.lst accV) := s3.ext.at_ Dd _ (gr _ _ eD) nr (fun z => z)
    have ra3 : Reps C ρ3 H3 accD accV := (ra.grow gr).to (s3.keeps (so.grow gr).rok) s3.pre
    cases t with
    | false =>
      show if false = true then _ else _
      rw [if_neg Bool.false_ne_true]
      exact ⟨ρ3, g3, accD, accV, restD, s13, F3.sto, eD3, ra3, by omega, h4, ed⟩
    | true =>
      show if true = true then _ else _
      rw [if_pos rfl]
      rcases bind_some h4 with ⟨c, _, z⟩ | ⟨xd, g4, h5, h6⟩
      · cases z
      rcases bind_some h6 with ⟨c, _, z⟩ | ⟨xs, g5, h7, h8⟩
      · cases z
      obtain ⟨ez, eg⟩ := pure_some h8
      cases ez
      subst eg
      refine ⟨σ', ρ3, g3, F3, .ok xd, g4, h5, fun ρ4 H4 F4 s4 v rv => ?_⟩
      have nr3 : ¬ inRho ρ3 Dd := tup_not F3.rok eD3 (fun _ z => by cases z)
      have eD4 : H4 Dd = some (.lst accV) := s4.ext.at_ Dd _ eD3 nr3 (fun z => z)
      have ra4 : Reps C ρ4 H4 accD accV := ra3.to (s4.keeps F3.rok) s4.pre
      refine ⟨accV, eD4, ?_, ρ4, g4, accD ++ [xd], accV ++ [v], xs, (s13.trans s4).upd nD, F4.sto.upd eD4 (fun _ z => by cases z), upd_same, (ra4.snoc rv).to (keeps_upd eD4) (List.prefix_refl _), ?_, h7, ?_⟩
      · have := ra4.len
        have := hJ.len
        omega
      · rw [List.length_append, List.length_singleton]; omega
      · rw [← ed, List.append_assoc]; rfl
  · have e : i = items.length := by omega
    subst e
    rw [List.drop_length] at hr
    obtain ⟨ez, rfl⟩ := pure_some hr
    cases ez
    rw [List.append_nil] at ed
    subst ed
    exact .inl ⟨hJ.stop Hh hke, hQ ρi Hh accV st so eD ra⟩
theorem noex_some {α : Type} {m : M α} {g g' : G} {r : R α} (h : M.noex m g = some (r, g')) : ∃ a, r = .ok a ∧ m g = some (.ok a, g') := by
  unfold M.noex at h
  cases e : m g with
  | none => rw [e] at h; cases h
  | some p =>
    obtain ⟨r1, g1⟩ := p
    rw [e] at h
    cases r1 with
    | ex c => cases h
    | ok a =>
      have h2 : some ((.ok a : R α), g1) = some (r, g') := h
      cases h2
      exact ⟨a, rfl, rfl⟩
def compM (mi : List Sl → M (List D)) (tg : Tg) (own : List Nat) (test : List Sl → M Bool) (elt : List Sl → M D) : List Sl → M (List D) := fun σ => M.bind (mi σ) fun items => M.noex (compL tg test elt (clear own σ) items)
theorem comp_read {mi : List Sl → M (List D)} {tg : Tg} {own : List Nat} {test : List Sl → M Bool} {elt : List Sl → M D} {Q : VK} (hin : ∀ i ∈ tgSlots tg, i ∈ own) (h : liftN C W H0 ρ0 (compM mi tg own test elt) σV H Q) :
    tLc (liftI C W H0 ρ0 mi) (gT C.K tg) (liftT C W0 H0 ρ0 test) (lift C W0 H0 ρ0 elt) own σV H Q := by
  obtain ⟨σ, ρ, g, F, r, g', hm, hk⟩ := h
  rcases bind_some hm with ⟨c, h1, rfl⟩ | ⟨items, g1, h1, h2⟩
  · exact ⟨σ, ρ, g, F, .ex c, g', h1, hk⟩
  · obtain ⟨ds, rfl, hc⟩ := noex_some h2
    refine ⟨σ, ρ, g, F, .ok items, g1, h1, fun ρ1 H1 F1 s1 J hJ Dd nD => ?_⟩
    refine comp_turns hin F1 hJ nD hc fun ρ' H' vs st so e rv => ?_
    have hn : H Dd = none := by
      cases q : H Dd with
      | none => rfl
      | some u =>
        by_cases hr : inRho ρ Dd
        · obtain ⟨kvs, z⟩ := F1.rok Dd (hr.mono s1.pre)
          rw [nD] at z
          cases z
        · by_cases ht : isTbl u
          · obtain ⟨u', z, _⟩ := s1.ext.tbl Dd u q hr ht
            rw [nD] at z
            cases z
          · have z := s1.ext.at_ Dd u q hr ht
            rw [nD] at z
            cases z
    exact hk Dd vs ρ' H' hn (s1.trans st) so e rv
end
end MC
namespace MC
open PySem PySem.Spec L2
def asL : D → M (List D)
  | .lst l => M.pure l
  | _ => M.fail
section
variable {C : Cn} {W : WX} {H0 : Hp} {ρ0 : Rho} {X : Cx} {σV : L2.St} {σ : List Sl} {ρ : Rho} {g : G} {H : Hp}
theorem Stp.none {ρ ρ1 : Rho} {H H1 : Hp} {p : Addr} {g1 : G} (s : Stp ρ H ρ1 H1) (so : Sto ρ1 g1 H1) (n : H1 p = none) : H p = none := by
  cases q : H p with
  | none => rfl
  | some u =>
    by_cases hr : inRho ρ p
    · obtain ⟨kvs, z⟩ := so.rok p (hr.mono s.pre)
      rw [n] at z
      cases z
    · by_cases ht : isTbl u
      · obtain ⟨u', z, _⟩ := s.ext.tbl p u q hr ht
        rw [n] at z
        cases z
      · have z := s.ext.at_ p u q hr ht
        rw [n] at z
        cases z
/-- a new list is laid at p -/
theorem new_at {ρ1 : Rho} {H1 : Hp} {g1 : G} {ds : List D} {vs : List V} {Q : VK} (F1 : Fm C H0 ρ0 σ σV ρ1 g1 H1) (s1 : Stp ρ H ρ1 H1) (rv : Reps C ρ1 H1 ds vs)
    (hk : ∀ p vs ρ' H', H p = none → Stp ρ H ρ' H' → Sto ρ' g1 H' → H' p = some (.lst vs) → Reps C ρ' H' ds vs → Q (.ref p) H') : ∀ p, H1 p = none → Q (.ref p) (upd H1 p (.lst vs)) := fun p hp =>
  hk p vs ρ1 _ (s1.none F1.sto hp) (s1.trans (.of _ (Grow.upd hp))) (F1.sto.grow (Grow.upd hp)) upd_same (rv.grow (Grow.upd hp))
theorem sN_lst {es : List Expr} {ms : List Sl → M (List D)} {pos : Pos} (h : PA X es (liftA C W H0 ρ0 ms)) (len : ∀ σ g ds g', ms σ g = some (.ok ds, g') → ds.length ≤ 1000) :
    PE X (.List es pos) (liftN C W H0 ρ0 fun σ => M.bind (M.bind (ms σ) fun ds => M.pure (.lst ds)) asL) := by
  refine PE.imp (pe_lst h) fun σV H Q h => ?_
  obtain ⟨σ, ρ, g, F, r, g', hm, hk⟩ := h
  dsimp only at hm
  rw [M.bind_assoc] at hm
  rcases bind_some hm with ⟨c, h1, rfl⟩ | ⟨ds, g1, h1, h2⟩
  · exact ⟨σ, ρ, g, F, .ex c, g', h1, hk⟩
  · obtain ⟨rfl, rfl⟩ := pure_some (show M.pure ds g1 = _ from h2)
    refine ⟨σ, ρ, g, F, .ok ds, g', h1, fun ρ1 H1 F1 s1 vs rvs => ⟨?_, new_at F1 s1 rvs hk⟩⟩
    rw [rvs.len, sizeLine_eq]
    have := len σ g ds g' h1
    omega
theorem sN_add {a b : Expr} {ma mb : List Sl → M D} {pos : Pos} (ha : PE X a (lift C W H0 ρ0 ma)) (hb : PE X b (lift C W H0 ρ0 mb)) :
    PE X (.BinOp a .Add b pos) (liftN C W H0 ρ0 fun σ => M.bind (M.bind (ma σ) fun x => M.bind (mb σ) fun y => M.opt (opD .add x y)) asL) := by
  refine PE.imp (pe_op op_catF ha hb) fun σV H Q h => ?_
  obtain ⟨σ, ρ, g, F, r, g', hm, hk⟩ := h
  dsimp only at hm
  rw [M.bind_assoc] at hm
  rcases bind_some hm with ⟨c, h1, rfl⟩ | ⟨x, g1, h1, h2⟩
  · exact ⟨σ, ρ, g, F, .ex c, g', h1, hk⟩
  refine ⟨σ, ρ, g, F, .ok x, g1, h1, fun ρ1 H1 F1 s1 v rv => ?_⟩
  rw [M.bind_assoc] at h2
  rcases bind_some h2 with ⟨c, h3, rfl⟩ | ⟨y, g2, h3, h4⟩
  · exact ⟨σ, ρ1, g1, F1, .ex c, g', h3, hk⟩
  refine ⟨σ, ρ1, g1, F1, .ok y, g2, h3, fun ρ2 H2 F2 s2 w rw' => ?_⟩
  rcases bind_some h4 with ⟨c, h5, _⟩ | ⟨z, g3, h5, h6⟩
  · obtain ⟨_, _, z, _⟩ := opt_some h5
    cases z
  obtain ⟨z', e, ez, rfl⟩ := opt_some h5
  cases ez
  have rv2 := rv.to (s2.keeps F1.rok) s2.pre
  cases z with
  | lst l =>
    obtain ⟨rfl, rfl⟩ := pure_some (show M.pure l _ = _ from h6)
    match x, y, e with
    | .lst la, .lst lb, e =>
      have e : (if la.length + lb.length ≤ sizeLine then some (D.lst (la ++ lb)) else none) = some (.lst l) := e
      split at e
      · rename_i hz
        cases e
        obtain ⟨p, vs, rfl, f1, r1⟩ := rv2
        obtain ⟨q, ws, rfl, f2, r2⟩ := rw'
        refine ⟨p, q, vs, ws, rfl, rfl, .inr f1, .inr f2, by rw [r1.len, r2.len]; exact hz, new_at F2 (s1.trans s2) (r1.append r2) hk⟩
      · cases e
    | .int _, .int _, e => cases e
    | .tup la, .tup lb, e =>
      have e : (if la.length + lb.length ≤ sizeLine then some (D.tup (la ++ lb)) else none) = some (.lst l) := e
      split at e <;> cases e
    | .str la, .str lb, e =>
      have e : (if la.length + lb.length ≤ sizeLine then some (D.str (la ++ lb)) else none) = some (.lst l) := e
      split at e <;> cases e
  | _ => cases h6
theorem sN_mul {a b : Expr} {ma mb : List Sl → M D} {pos : Pos} (ha : PE X a (lift C W H0 ρ0 ma)) (hb : PE X b (lift C W H0 ρ0 mb)) :
    PE X (.BinOp a .Mult b pos) (liftN C W H0 ρ0 fun σ => M.bind (M.bind (ma σ) fun x => M.bind (mb σ) fun y => M.opt (opD .mul x y)) asL) := by
  refine PE.imp (pe_op op_repF ha hb) fun σV H Q h => ?_
  obtain ⟨σ, ρ, g, F, r, g', hm, hk⟩ := h
  dsimp only at hm
  rw [M.bind_assoc] at hm
  rcases bind_some hm with ⟨c, h1, rfl⟩ | ⟨x, g1, h1, h2⟩
  · exact ⟨σ, ρ, g, F, .ex c, g', h1, hk⟩
  refine ⟨σ, ρ, g, F, .ok x, g1, h1, fun ρ1 H1 F1 s1 v rv => ?_⟩
  rw [M.bind_assoc] at h2
  rcases bind_some h2 with ⟨c, h3, rfl⟩ | ⟨y, g2, h3, h4⟩
  · exact ⟨σ, ρ1, g1, F1, .ex c, g', h3, hk⟩
  refine ⟨σ, ρ1, g1, F1, .ok y, g2, h3, fun ρ2 H2 F2 s2 w rw' => ?_⟩
  rcases bind_some h4 with ⟨c, h5, _⟩ | ⟨z, g3, h5, h6⟩
  · obtain ⟨_, _, z, _⟩ := opt_some h5
    cases z
  obtain ⟨z', e, ez, rfl⟩ := opt_some h5
  cases ez
  have rv2 := rv.to (s2.keeps F1.rok) s2.pre
  cases z with
  | lst l =>
    obtain ⟨rfl, rfl⟩ := pure_some (show M.pure l _ = _ from h6)
    match x, y, e with
    | .lst la, .int k, e =>
      have e : (if -1000 ≤ k ∧ k ≤ 1000 ∧ la.length ≤ 1000 then some (D.lst (List.replicate k.toNat la).flatten) else none) = some (.lst l) := e
      split at e
      · rename_i hz
        cases e
        obtain ⟨p, vs, rfl, f1, r1⟩ := rv2
        refine ⟨p, k, vs, rfl, rw', .inr f1, hz.1, hz.2.1, by rw [r1.len]; exact hz.2.2, new_at F2 (s1.trans s2) (r1.flat _) hk⟩
      · cases e
    | .tup la, .int k, e =>
      have e : (if -1000 ≤ k ∧ k ≤ 1000 ∧ la.length ≤ 1000 then some (D.tup (List.replicate k.toNat la).flatten) else none) = some (.lst l) := e
      split at e <;> cases e
    | .int i, .int j, e =>
      have e : (if (-lim < i ∧ i < lim) ∨ (-lim < j ∧ j < lim) then some (D.int (i * j)) else none) = some (.lst l) := e
      split at e <;> cases e
  | _ => cases h6
theorem sN_list {x : Expr} {ms : List Sl → M (List D)} {p pos : Pos} (hK : X.K = C.K) (ok : okE x = true) (hg : Gl X "list") (hm : X.mg "list" = none) (ha : PA X [x] (liftA C W H0 ρ0 ms)) :
    PE X (.Call (.Name "list" p) [x] [] pos) (liftN C W H0 ρ0 fun σ => M.bind (M.bind (ms σ) fun ds => M.opt (prD .list ds)) asL) := by
  refine PE.imp (pe_callTy call_list_of hg hm (by decide +kernel) ha (by decide) (by decide) (star_of ok _ _) rfl) fun σV H Q h => ?_
  obtain ⟨σ, ρ, g, F, r, g', hm, hk⟩ := h
  dsimp only at hm
  rw [M.bind_assoc] at hm
  rcases bind_some hm with ⟨c, h1, rfl⟩ | ⟨ds, g1, h1, h2⟩
  · exact ⟨σ, ρ, g, F, .ex c, g', h1, hk⟩
  refine ⟨σ, ρ, g, F, .ok ds, g1, h1, fun ρ1 H1 F1 s1 vs rv => ?_⟩
  rcases bind_some h2 with ⟨c, h5, _⟩ | ⟨z, g3, h5, h6⟩
  · obtain ⟨_, _, z, _⟩ := opt_some h5
    cases z
  obtain ⟨z', e, ez, rfl⟩ := opt_some h5
  cases ez
  cases z with
  | lst l =>
    obtain ⟨rfl, rfl⟩ := pure_some (show M.pure l _ = _ from h6)
    match ds, e with
    | [.lst la], e =>
      cases (Option.some.inj e : D.lst la = .lst l)
      obtain ⟨v, rfl, p, vs, rfl, f1, r1⟩ := reps1 rv
      exact ⟨p, vs, rfl, .inl (FzL.sq f1), new_at F1 s1 r1 hk⟩
    | [.tup la], e =>
      cases (Option.some.inj e : D.lst la = .lst l)
      obtain ⟨v, rfl, p, vs, rfl, f1, r1⟩ := reps1 rv
      rw [hK]
      exact ⟨p, vs, rfl, .inr f1, new_at F1 s1 r1 hk⟩
  | _ => cases h6
/-! ### comprehensions -/
theorem PG.eq {tg : Expr} {t t' : TG} (h : PG X tg t) (e : t = t') : PG X tg t' := e ▸ h
section
variable {elt tge iter : Expr} {ifs : List Expr} {scope : Scope} {pos : Pos} {mi : List Sl → M (List D)} {tg : Tg} {own : List (Str × Nat)} {test : List Sl → M Bool} {me : List Sl → M D}
theorem sN_comp (hc : X.calm = true) (hN : X.N.Nodup) (hK : X.K = C.K) (ok : BlkOk X.N X.env.scope scope own) (oki : okE iter = true) (hin : ∀ i ∈ tgSlots tg, i ∈ own.map (·.2)) (hi : PI X tge iter (liftI C W H0 ρ0 mi))
    (hg : ∀ (s : Shared) (H : Hp) (Cc : Addr) (cl : List (Str × Addr)) (fp : List Addr), PG (X.blk s H scope (compEnvC scope cl Cc X.env) fp) tge (gT C.K tg))
    (ht : ∀ (s : Shared) (H : Hp) (Cc : Addr) (cl : List (Str × Addr)) (fp : List Addr), PTs (X.blk s H scope (compEnvC scope cl Cc X.env) fp) ifs (liftT C W0 H0 ρ0 test))
    (he : ∀ (s : Shared) (H : Hp) (Cc : Addr) (cl : List (Str × Addr)) (fp : List Addr), PE (X.blk s H scope (compEnvC scope cl Cc X.env) fp) elt (lift C W0 H0 ρ0 me)) :
    PE X (.ListComp elt [⟨tge, iter, ifs, 0⟩] scope pos) (liftN C W H0 ρ0 (compM mi tg (own.map (·.2)) test me)) :=
  PE.imp (pe_lc hc hN hi ok hg ht he (folded_of oki X.env)) fun σV H Q h => comp_read hin h
end
theorem liftN_eq {m m' : List Sl → M (List D)} {e : Expr} (h : PE X e (liftN C W H0 ρ0 m)) (q : ∀ σ, m σ = m' σ) : PE X e (liftN C W H0 ρ0 m') := by
  rw [show m' = m from (funext fun σ => (q σ).symm)]
  exact h
theorem lift_eq {m m' : List Sl → M D} {e : Expr} (h : PE X e (lift C W H0 ρ0 m)) (q : ∀ σ, m σ = m' σ) : PE X e (lift C W H0 ρ0 m') := by
  rw [show m' = m from (funext fun σ => (q σ).symm)]
  exact h
theorem sYes : PTs X [] (liftT C W H0 ρ0 fun _ => M.pure true) := by
  refine ⟨fun pins s σV H Q I h => pts_nil.run pins s σV H Q I ?_⟩
  obtain ⟨σ, ρ, g, h⟩ := h
  obtain ⟨F, hk⟩ := At.pure h
  exact hk ρ H F (.refl _ _)
/-! ### a list of this frame is looked at -/
theorem Fm.getL (F : Fm C H0 ρ0 σ σV ρ g H) {i : Nat} {l : List D} (h : slot σ i = .ml l) : ∃ a vs, σV[i]? = some (some (.ref a)) ∧ H a = some (.lst vs) ∧ Reps C ρ H l vs ∧ σ[i]? = some (.ml l) := by
  unfold slot at h
  rw [List.getD_eq_getElem?_getD] at h
  cases q : σ[i]? with
  | none => rw [q] at h; cases h
  | some s =>
    rw [q] at h
    have h : s = .ml l := h
    subst h
    have hi : i < σV.length := by
      rw [← F.len]
      exact (List.getElem?_eq_some_iff.mp q).1
    obtain ⟨a, vs, e, h1, r⟩ := F.rep i _ σV[i] q (List.getElem?_eq_getElem hi)
    exact ⟨a, vs, by rw [List.getElem?_eq_getElem hi, e], h1, r, rfl⟩
/-! ### keywords -/
end
end MC
namespace MC
open PySem PySem.Spec L2
/-! ### the text against the small text -/
/-- what is known of the module -/
structure Tab where
  nm : Nat → Str
  ar : Nat → Nat
  bl : List Str
  cn : List (Str × Int)
  kw : List (Nat × Nat × List Str × List Nat)
  ex : List Str
/-- where we stand: names of the slots, scope, the names whose cells are made here, the defs below n may be called -/
structure Gam where
  N : List Str
  sc : Scope
  fn : Str → Bool
  n : Nat
def visB (sc : Scope) (x : Str) : Bool := match sc.names.lookup x with
  | some .local => true
  | some .cell => true
  | some .free => true
  | _ => false
theorem vis_of {sc : Scope} {x : Str} (h : visB sc x = true) : Vis sc x := by
  unfold visB at h
  unfold Vis
  split at h <;> simp_all
def glB (sc : Scope) (x : Str) : Bool := match sc.names.lookup x with
  | some .globalImplicit => true
  | _ => false
theorem gl_of {sc : Scope} {x : Str} (h : glB sc x = true) : sc.names.lookup x = some .globalImplicit := by
  unfold glB at h
  split at h <;> simp_all
def locB (Γ : Gam) (x : Str) : Bool := match Γ.sc.names.lookup x with
  | some .local => true
  | some .cell => Γ.fn x
  | _ => false
def cstB : D → Const → Bool
  | .non, .none => true
  | .bl b, .bool c => b == c
  | .int i, .int j => decide (i = j)
  | .str x, .str y => decide (x = y)
  | _, _ => false
def binB : Op2 → Operator → Bool
  | .add, .Add => true
  | .sub, .Sub => true
  | .mul, .Mult => true
  | .fdiv, .FloorDiv => true
  | .mod, .Mod => true
  | .pow, .Pow => true
  | _, _ => false
theorem bin_of {o : Op2} {op : Operator} (h : binB o op = true) : opSem o = binaryOp op := by
  cases o <;> cases op <;> first | rfl | cases h
def cmpB : Op2 → CmpOp → Bool
  | .eq, .Eq => true
  | .ne, .NotEq => true
  | .lt, .Lt => true
  | .le, .LtE => true
  | .gt, .Gt => true
  | .ge, .GtE => true
  | .mem, .In => true
  | .nmem, .NotIn => true
  | .isN, .Is => true
  | .notN, .IsNot => true
  | .isB, .Is => true
  | _, _ => false
theorem cmp_of {o : Op2} {op : CmpOp} (h : cmpB o op = true) : opSem o = compareOp op := by
  cases o <;> cases op <;> first | rfl | cases h
theorem cmp_bl {o : Op2} {op : CmpOp} (h : cmpB o op = true) (x y d : D) (e : opD o x y = some d) : ∃ t, d = .bl t := by
  have r : (∃ t, d = .bl t) ∨ opD o x y = none ∨ cmpB o op = false := by
    unfold opD at e
    split at e <;> first
      | (right; right; cases op <;> rfl)
      | (split at e <;> first | exact .inl ⟨_, (Option.some.inj e).symm⟩ | cases e)
      | exact .inl ⟨_, (Option.some.inj e).symm⟩
      | (obtain ⟨c, _, z⟩ := Option.map_eq_some_iff.mp e; exact .inl ⟨_, z.symm⟩)
      | cases e
  rcases r with r | r | r
  · exact r
  · rw [e] at r; cases r
  · rw [h] at r; cases r
/-- a test that we can read -/
def okT : Expr → Bool
  | .IfExp _ _ _ _ => false
  | .UnaryOp .USub _ _ => false
  | _ => true
def prN : Pr → Str
  | .len => "len"
  | .all => "all"
  | .any => "any"
  | .sum => "sum"
  | .max => "max"
  | .min => "min"
  | .sorted => "sorted"
  | .tuple => "tuple"
  | .list => "list"
def tyN : Ty → Str
  | .int => "int"
  | .bool => "bool"
  | .tuple => "tuple"
  | .str => "str"
def ownOf (N : List Str) (own : List Nat) : List (Str × Nat) := own.map fun i => (N.getD i "", i)
theorem ownOf_ix (N : List Str) : ∀ own : List Nat, (ownOf N own).map (·.2) = own := fun own => by
  unfold ownOf
  rw [List.map_map]
  exact (List.map_congr_left (fun _ _ => rfl)).trans (List.map_id _)
/-- within a comprehension -/
def Gam.blk (Γ : Gam) (scope : Scope) : Gam := { Γ with sc := relS scope Γ.sc, fn := fun x => scope.names.lookup x == some .cell }
mutual
def chkG (Γ : Gam) : Tg → Expr → Bool
  | .n i, ex => match ex with
    | .Name x _ => decide (Γ.N[i]? = some x) && locB Γ x
    | _ => false
  | .t l, ex => match ex with
    | .Tuple es _ _ => chkGs Γ l es
    | _ => false
def chkGs (Γ : Gam) : List Tg → List Expr → Bool
  | [], es => match es with
    | [] => true
    | _ => false
  | t :: l, es => match es with
    | e :: r => okE e && chkG Γ t e && chkGs Γ l r
    | _ => false
end
variable (T : Tab)
mutual
def chkE (Γ : Gam) : E → Expr → Bool
  | .var i, ex => match ex with
    | .Name x _ => decide (Γ.N[i]? = some x) && visB Γ.sc x && !(x == ("__debug__" : Str)) && !(x == ("__classdict__" : Str))
    | _ => false
  | .cst d, ex => match ex with
    | .Constant c _ _ => cstB d c
    | _ => false
  | .con x i, ex => match ex with
    | .Name y _ => decide (x = y) && glB Γ.sc x && T.cn.contains (x, i) && !(x == ("__debug__" : Str))
    | _ => false
  | .tup es, ex => match ex with
    | .Tuple xs _ _ => chkEs Γ es xs && decide (xs.length ≤ 1000)
    | _ => false
  | .lst es, ex => match ex with
    | .List xs _ => chkEs Γ es xs && decide (xs.length ≤ 1000)
    | _ => false
  | .op o a b, ex => match ex with
    | .BinOp x op y _ => binB o op && chkE Γ a x && chkE Γ b y
    | .Compare x [op] [y] _ => cmpB o op && okE y && chkE Γ a x && chkE Γ b y
    | _ => false
  | .chn o o' a b c, ex => match ex with
    | .Compare x [op, op'] [y, z] _ => cmpB o op && cmpB o' op' && okE z && chkE Γ a x && chkE Γ b y && chkE Γ c z
    | _ => false
  | .and es, ex => match ex with
    | .BoolOp .And xs _ => chkB Γ es xs
    | _ => false
  | .or es, ex => match ex with
    | .BoolOp .Or xs _ => chkB Γ es xs
    | _ => false
  | .not e, ex => match ex with
    | .UnaryOp .Not x _ => okT x && chkE Γ e x
    | _ => false
  | .neg e, ex => match ex with
    | .UnaryOp .USub x _ => chkE Γ e x
    | _ => false
  | .ife c a b, ex => match ex with
    | .IfExp x y z _ => okT x && chkE Γ c x && chkE Γ a y && chkE Γ b z
    | _ => false
  | .idx a b, ex => match ex with
    | .Subscript x y _ => okE y && chkE Γ a x && chkE Γ b y
    | _ => false
  | .slc a lo hi, ex => match ex with
    | .Subscript x (.Slice y z none _) _ => chkE Γ a x && chkO Γ lo y && chkO Γ hi z
    | _ => false
  | .call f es, ex => match ex with
    | .Call (.Name x _) xs [] _ => decide (T.nm f = x) && decide (f < Γ.n) && decide (T.ar f = xs.length) && glB Γ.sc x && !(x == ("__debug__" : Str)) && xs.all okE && chkEs Γ es xs
    | _ => false
  | .callk f es ks perm, ex => match ex with
    | .Call (.Name x _) xs kws _ => decide (T.nm f = x) && decide (f < Γ.n) && T.kw.contains (f, xs.length, ks.map (·.1), perm) && decide (perm.length = T.ar f) && glB Γ.sc x && !(x == ("__debug__" : Str)) && xs.all okE && chkEs Γ es xs && chkK Γ ks kws
    | _ => false
  | .prim p es, ex => match ex with
    | .Call (.Name x _) xs [] _ => decide (prN p = x) && T.bl.contains x && glB Γ.sc x && !xs.isEmpty && xs.all okE && chkEs Γ es xs
    | _ => false
  | .isi e t, ex => match ex with
    | .Call (.Name x _) [y, .Name z _] [] _ => decide (x = "isinstance") && decide (tyN t = z) && T.bl.contains x && T.bl.contains z && glB Γ.sc x && glB Γ.sc z && okE y && chkE Γ e y
    | _ => false
  | .comp elt tg own it cs, ex => match ex with
    | .ListComp x [⟨tge, iter, ifs, 0⟩] scope _ => blkC Γ.N Γ.sc scope (ownOf Γ.N own) && okE iter && (tgSlots tg).all (own.contains ·) && chkI Γ it tge iter && chkG (Γ.blk scope) tg tge && chkC (Γ.blk scope) cs ifs && chkE (Γ.blk scope) elt x
    | _ => false
  | .len_ i, ex => false
  | .at_ i e, ex => false
def chkEs (Γ : Gam) : List E → List Expr → Bool
  | [], xs => match xs with
    | [] => true
    | _ => false
  | e :: es, xs => match xs with
    | x :: r => okE x && chkE Γ e x && chkEs Γ es r
    | _ => false
/-- the parts of and, or -/
def chkB (Γ : Gam) : List E → List Expr → Bool
  | [], _ => false
  | e :: es, xs => match xs with
    | x :: r => okT x && chkE Γ e x && (match es, r with
      | [], [] => true
      | [], _ => false
      | _, _ => chkB Γ es r)
    | _ => false
def chkK (Γ : Gam) : List (Str × E) → List Keyword → Bool
  | [], xs => match xs with
    | [] => true
    | _ => false
  | (k, e) :: es, xs => match xs with
    | ⟨some y, x, _⟩ :: r => decide (y = k) && chkE Γ e x && chkK Γ es r
    | _ => false
def chkO (Γ : Gam) : Option E → Option Expr → Bool
  | none, x => match x with
    | none => true
    | _ => false
  | some e, x => match x with
    | some y => chkE Γ e y
    | _ => false
def chkI (Γ : Gam) : It → Expr → Expr → Bool
  | .e e, _, ex => chkE Γ e ex && okE ex
  | .rng es, _, ex => match ex with
    | .Call (.Name x _) xs [] _ => decide (x = "range") && T.bl.contains x && glB Γ.sc x && xs.all okE && (decide (xs.length = 1) || decide (xs.length = 2)) && chkEs Γ es xs
    | _ => false
  | .enum e, tg, ex => match tg, ex with
    | .Tuple _ _ _, .Call (.Name x _) [y] [] _ => decide (x = "enumerate") && T.bl.contains x && glB Γ.sc x && okE y && chkE Γ e y
    | _, _ => false
  | .zip a b, tg, ex => match tg, ex with
    | .Tuple _ _ _, .Call (.Name x _) [y, z] [] _ => decide (x = "zip") && T.bl.contains x && glB Γ.sc x && okE y && okE z && chkE Γ a y && chkE Γ b z
    | _, _ => false
def chkC (Γ : Gam) : List E → List Expr → Bool
  | [], xs => match xs with
    | [] => true
    | _ => false
  | [e], xs => match xs with
    | [x] => okT x && chkE Γ e x
    | _ => false
  | _ :: _ :: _, _ => false
end
end MC
namespace MC
open PySem PySem.Spec L2
def permL {α : Type} (perm : List Nat) (us ws : List α) : List α := perm.filterMap fun i => (us ++ ws)[i]?
theorem permL_of {perm : List Nat} {ds zs as : List D} (h : permD perm (ds ++ zs) = some as) : permL perm ds zs = as := by
  unfold permD at h
  unfold permL
  induction perm generalizing as with
  | nil => simp at h; subst h; rfl
  | cons i p ih =>
    rw [List.mapM_cons] at h
    cases e : (ds ++ zs)[i]? with
    | none => rw [e] at h; cases h
    | some d =>
      rw [e] at h
      cases e2 : List.mapM (fun i => (ds ++ zs)[i]?) p with
      | none => rw [e2] at h; cases h
      | some as' =>
        rw [e2] at h
        cases h
        rw [List.filterMap_cons, e]
        exact congrArg _ (ih e2)
/-- an exception's class of the program -/
def ExcOk (K : PySem.W.Frag) (mg : Str → Option Value) (x : Str) : Prop := ∃ (bmB : List Value) (B newId initId : String), ExcBaseFacts B newId initId bmB ∧ PySem.W.excIn K (He.ga K x) bmB newId = true ∧ mg x = some (.ref (He.ga K x)) ∧ PySem.W.keepIn K (.ref (He.ga K x)) = true ∧
  PySem.W.subIn K (.ref (He.ga K x)) (.type "BaseException") = some true ∧ PySem.W.typeIn K (.ref (He.ga K x)) = some (.type "type")
/-- what is known of the module: the defs below n keep their promise -/
structure Mdl (T : Tab) (C : Cn) (P : Program) (w : World) (mg : Str → Option Value) (base : Heap) (Φ : Nat → List D → M D) (n : Nat) : Prop where
  bl : ∀ x, T.bl.contains x = true → mg x = none
  cn : ∀ x i, T.cn.contains (x, i) = true → ∃ u, mg x = some u ∧ RelV (.int i) u
  fn : ∀ f, f < n → ∃ fd ps, FnOk P w C.K mg base (L2.CX P w) (f + 1) (He.ga C.K (T.nm f)) fd ps (spM C ps.length (Φ f)) ∧ ps.length = T.ar f ∧ mg (T.nm f) = some (.ref (He.ga C.K (T.nm f))) ∧ PySem.W.keepIn C.K (.ref (He.ga C.K (T.nm f))) = true ∧ Binds C.K fd ps [] ∧
    ∀ m ks perm, T.kw.contains (f, m, ks, perm) = true → KBn C.K fd ps m ks (permL perm) (permL perm)
  ex : ∀ x, T.ex.contains x = true → ExcOk C.K mg x
structure Good (T : Tab) (C : Cn) (Φ : Nat → List D → M D) (Γ : Gam) (X : Cx) (W : WX) : Prop where
  mdl : Mdl T C X.prog X.w X.mg X.base Φ Γ.n
  K : X.K = C.K
  N : X.N = Γ.N
  nd : X.N.Nodup
  sc : X.env.scope = Γ.sc
  calm : X.calm = true
  fn : ∀ x, Γ.fn x = true → X.fn x = true
  tk : Takes X W
  rm : Room Γ.n X.A
section
variable {T : Tab} {C : Cn} {Φ : Nat → List D → M D} {Γ : Gam} {X : Cx} {W : WX} {H0 : Hp} {ρ0 : Rho}
theorem Good.gl (Gd : Good T C Φ Γ X W) {x : Str} (h : glB Γ.sc x = true) : Gl X x := by
  have := gl_of h
  rw [← Gd.sc] at this
  exact this
theorem Good.at_ (Gd : Good T C Φ Γ X W) {i : Nat} {x : Str} (h : decide (Γ.N[i]? = some x) = true) : X.N[i]? = some x := by
  rw [Gd.N]
  exact of_decide_eq_true h
theorem Good.blk (Gd : Good T C Φ Γ X W) {s : Shared} {H : Hp} {scope : Scope} {cl : List (Str × Addr)} {Cc : Addr} {fp : List Addr} : Good T C Φ (Γ.blk scope) (X.blk s H scope (compEnvC scope cl Cc X.env) fp) W0 :=
  ⟨Gd.mdl, Gd.K, Gd.N, Gd.nd, by show relS scope X.env.scope = relS scope Γ.sc; rw [Gd.sc], Gd.calm, fun x h => h, takes0, Gd.rm⟩
theorem Good.loc (Gd : Good T C Φ Γ X W) {x : Str} (h : locB Γ x = true) : L2.Loc X.env.scope x ∧ (X.fn x = true ∨ X.env.scope.names.lookup x = some .local) := by
  unfold locB at h
  rw [← Gd.sc] at h
  unfold L2.Loc
  split at h
  · rename_i e
    exact ⟨.inl e, .inr e⟩
  · rename_i e
    exact ⟨.inr e, .inl (Gd.fn x h)⟩
  · cases h
theorem ae_of {e : Expr} (h : okE e = true) (es : List Expr) (env : Env) : assignEach (e :: es) env = (false, assign e env) :: assignEach es env := by
  cases e <;> first | rfl | cases h
mutual
theorem sndG : ∀ (tg : Tg) (ex : Expr), Good T C Φ Γ X W → chkG Γ tg ex = true → PG X ex (gT C.K tg)
  | .n i, ex, Gd, h => by
    unfold chkG at h
    split at h
    · obtain ⟨h1, h2⟩ := Bool.and_eq_true_iff.mp h
      obtain ⟨l1, l2⟩ := Gd.loc h2
      exact pg_name Gd.nd (Gd.at_ h1) l1 l2
    · cases h
  | .t l, ex, Gd, h => by
    unfold chkG at h
    split at h
    · rename_i es kk pos
      obtain ⟨h1, h2, h3⟩ := sndGs l es Gd h
      have := pg_tup (pos := pos) (k := kk) Gd.calm h1 h2 h3
      rw [Gd.K] at this
      exact this
    · cases h
theorem sndGs : ∀ (l : List Tg) (es : List Expr), Good T C Φ Γ X W → chkGs Γ l es = true → PGs X es (gTs C.K l) ∧ (assignEach es X.env).length = l.length ∧ (assignEach es X.env).findIdx? (·.1) = none
  | [], es, Gd, h => by
    unfold chkGs at h
    split at h
    · exact ⟨pgs_nil, rfl, rfl⟩
    · cases h
  | t :: l, es, Gd, h => by
    unfold chkGs at h
    split at h
    · rename_i e r
      obtain ⟨h12, h3⟩ := Bool.and_eq_true_iff.mp h
      obtain ⟨h1, h2⟩ := Bool.and_eq_true_iff.mp h12
      obtain ⟨q1, q2, q3⟩ := sndGs l r Gd h3
      refine ⟨pgs_cons (sndG t e Gd h2) q1 (by rw [ae_of h1]; rfl), by rw [ae_of h1, List.length_cons, List.length_cons, q2], ?_⟩
      rw [ae_of h1, List.findIdx?_cons]
      show (if (false : Bool) = true then some 0 else _) = none
      rw [if_neg Bool.false_ne_true, q3]
      rfl
    · cases h
end
theorem PK.imp {e : List Keyword} {t t' : TA} (h : PK X e t) (k : ∀ σ H Q, t' σ H Q → t σ H Q) : PK X e t' := ⟨fun pos pins s σ H Q I hw => h.run pos pins s σ H Q I (k _ _ _ hw)⟩
theorem evs_len {es : List E} {σ : List Sl} {g : G} {ds : List D} {g' : G} (h : evs Φ es σ g = some (.ok ds, g')) : ds.length = es.length := by
  induction es generalizing g ds g' with
  | nil =>
    rw [evs] at h
    obtain ⟨e, _⟩ := pure_some h
    cases e
    rfl
  | cons e es ih =>
    rw [evs] at h
    rcases bind_some h with ⟨c, _, z⟩ | ⟨d, g1, h1, h2⟩
    · cases z
    rcases bind_some h2 with ⟨c, _, z⟩ | ⟨ds1, g2, h3, h4⟩
    · cases z
    obtain ⟨z, _⟩ := pure_some h4
    cases z
    rw [List.length_cons, List.length_cons, ih h3]
theorem evk_len {es : List (Str × E)} {σ : List Sl} {g : G} {ds : List D} {g' : G} (h : evk Φ es σ g = some (.ok ds, g')) : ds.length = es.length := by
  induction es generalizing g ds g' with
  | nil =>
    rw [evk] at h
    obtain ⟨e, _⟩ := pure_some h
    cases e
    rfl
  | cons e es ih =>
    obtain ⟨k, e⟩ := e
    rw [evk] at h
    rcases bind_some h with ⟨c, _, z⟩ | ⟨d, g1, h1, h2⟩
    · cases z
    rcases bind_some h2 with ⟨c, _, z⟩ | ⟨ds1, g2, h3, h4⟩
    · cases z
    obtain ⟨z, _⟩ := pure_some h4
    cases z
    rw [List.length_cons, List.length_cons, ih h3]
theorem chkEs_len : ∀ {es : List E} {xs : List Expr}, chkEs T Γ es xs = true → es.length = xs.length
  | [], xs, h => by
    unfold chkEs at h
    split at h
    · rfl
    · cases h
  | e :: es, xs, h => by
    unfold chkEs at h
    split at h
    · obtain ⟨_, h3⟩ := Bool.and_eq_true_iff.mp h
      rw [List.length_cons, List.length_cons, chkEs_len h3]
    · cases h
/-! ### keywords -/
theorem sK_nil : PK X [] (liftA C W H0 ρ0 fun _ => M.pure []) := by
  refine PK.imp pk_nil fun σV H Q h => ?_
  obtain ⟨σ, ρ, g, h⟩ := h
  obtain ⟨F, hk⟩ := At.pure h
  exact hk ρ H F (.refl _ _) [] rfl
theorem sK_cons {x : Expr} {y : Option Str} {kpos : Pos} {kws : List Keyword} {m : List Sl → M D} {ms : List Sl → M (List D)} (h1 : PE X x (lift C W H0 ρ0 m)) (h2 : PK X kws (liftA C W H0 ρ0 ms)) :
    PK X (⟨y, x, kpos⟩ :: kws) (liftA C W H0 ρ0 fun σ => M.bind (m σ) fun d => M.bind (ms σ) fun ds => M.pure (d :: ds)) := by
  refine PK.imp (pk_cons h1 h2) fun σV H Q h => ?_
  obtain ⟨σ, ρ, g, h⟩ := h
  refine ⟨σ, ρ, g, h.bind fun d ρ1 H1 g1 s1 h1 v rv => ?_⟩
  have F1 := h1.1
  refine ⟨σ, ρ1, g1, h1.bind fun ds ρ2 H2 g2 s2 h2 vs rvs => ?_⟩
  obtain ⟨F2, hk⟩ := At.pure h2
  exact hk ρ2 H2 F2 (.refl _ _) (v :: vs) ⟨v, vs, rfl, rv.to (s2.keeps F1.rok) s2.pre, rvs⟩
theorem Reps.perm {ρ : Rho} {H : Hp} {ds zs as : List D} {vs ws : List V} (perm : List Nat) (h : permD perm (ds ++ zs) = some as) (r : Reps C ρ H (ds ++ zs) (vs ++ ws)) : Reps C ρ H as (permL perm vs ws) := by
  unfold permD at h
  unfold permL
  induction perm generalizing as with
  | nil => simp at h; subst h; rfl
  | cons i p ih =>
    rw [List.mapM_cons] at h
    cases e : (ds ++ zs)[i]? with
    | none => rw [e] at h; cases h
    | some d =>
      rw [e] at h
      cases e2 : List.mapM (fun i => (ds ++ zs)[i]?) p with
      | none => rw [e2] at h; cases h
      | some as' =>
        rw [e2] at h
        cases h
        obtain ⟨v, ev, rv⟩ := r.get e
        rw [List.filterMap_cons, ev]
        exact ⟨v, _, rfl, rv, ih e2⟩
section
variable {k : Nat} {f : Addr} {fd : FuncData} {ps : List Str} {F : List D → M D} {x : Str} {p pos : Pos} {kws : List Keyword} {ms mk : List Sl → M (List D)} {perm : List Nat} {ks : List Str} {n : Nat}
/-- the arguments are there: the call -/
theorem kw_run {σV : L2.St} {H : Hp} {Q : VK} (len : ∀ σ g ds g', ms σ g = some (.ok ds, g') → ds.length = n) (lenk : ∀ σ g ds g', mk σ g = some (.ok ds, g') → ds.length = ks.length) (hpl : perm.length = ps.length)
    (h : lift C W H0 ρ0 (fun σ => M.bind (ms σ) fun ds => M.bind (mk σ) fun zs => M.bind (M.opt (permD perm (ds ++ zs))) fun as => F as) σV H Q) :
    liftA C W H0 ρ0 ms σV H fun vs H1 => liftA C W H0 ρ0 mk σV H1 fun zs H2 => vs.length = n ∧ zs.length = ks.length ∧ spM C ps.length F (permL perm vs zs) H2 Q (WE W σV) := by
  obtain ⟨σ, ρ, g, Fr, r, g', hm, hq⟩ := h
  rcases bind_some hm with ⟨c, h1, rfl⟩ | ⟨ds, g1, h1, h2⟩
  · exact ⟨σ, ρ, g, Fr, .ex c, g', h1, hq⟩
  refine ⟨σ, ρ, g, Fr, .ok ds, g1, h1, fun ρ1 H1 F1 s1 vs rv => ?_⟩
  rcases bind_some h2 with ⟨c, h3, rfl⟩ | ⟨zs, g2, h3, h4⟩
  · exact ⟨σ, ρ1, g1, F1, .ex c, g', h3, hq⟩
  refine ⟨σ, ρ1, g1, F1, .ok zs, g2, h3, fun ρ2 H2 F2 s2 ws rw' => ⟨rv.len.trans (len _ _ _ _ h1), rw'.len.trans (lenk _ _ _ _ h3), ?_⟩⟩
  rcases bind_some h4 with ⟨c, h5, _⟩ | ⟨as, g3, h5, h6⟩
  · obtain ⟨_, _, z, _⟩ := opt_some h5
    cases z
  obtain ⟨as', e, ez, eg⟩ := opt_some h5
  cases ez
  subst eg
  have al : as.length = ps.length := by
    rw [← hpl]
    unfold permD at e
    have : ∀ (p : List Nat) (as : List D), p.mapM (fun i => (ds ++ zs)[i]?) = some as → as.length = p.length := fun p => by
      induction p with
      | nil => intro as h; simp at h; subst h; rfl
      | cons i p ih =>
        intro as h
        rw [List.mapM_cons] at h
        cases e : (ds ++ zs)[i]? with
        | none => rw [e] at h; cases h
        | some d =>
          rw [e] at h
          cases e2 : List.mapM (fun i => (ds ++ zs)[i]?) p with
          | none => rw [e2] at h; cases h
          | some as' =>
            rw [e2] at h
            cases h
            rw [List.length_cons, List.length_cons, ih _ e2]
    exact this _ _ e
  refine sp_run (σ := σ) ⟨F2, r, g', h6, ?_⟩ (Reps.perm perm e ((rv.to (s2.keeps F1.rok) s2.pre).append rw')) al
  cases r with
  | ok b => exact fun ρ' H' F' s' => hq ρ' H' F' ((s1.trans s2).trans s')
  | ex c => exact hq
theorem sE_callk {e : Expr} {es : List Expr} (tk : Takes X W) (G : FnOk X.prog X.w X.K X.mg X.base (L2.CX X.prog X.w) k f fd ps (spM C ps.length F)) (hr : Room k X.A) (hg : Gl X x) (hm : X.mg x = some (.ref f)) (hk : PySem.W.keepIn X.K (.ref f) = true)
    (hb : KBn X.K fd ps n ks (permL perm) (permL perm)) (hdb : (x == ("__debug__" : Str)) = false) (ok : (e :: es).all okE = true) (hpl : perm.length = ps.length) (len : ∀ σ g ds g', ms σ g = some (.ok ds, g') → ds.length = n) (lenk : ∀ σ g ds g', mk σ g = some (.ok ds, g') → ds.length = ks.length)
    (ha : PA X (e :: es) (liftA C W H0 ρ0 ms)) (hkw : PK X kws (liftA C W H0 ρ0 mk)) (hall : (backToKw pos (keywordEach kws X.env)).all (·.1.isSome) = true) (hks : (backToKw pos (keywordEach kws X.env)).filterMap (·.1) = ks) (hno : (backToKw pos (keywordEach kws X.env)).any (·.1.isNone) = false) :
    PE X (.Call (.Name x p) (e :: es) kws pos) (lift C W H0 ρ0 fun σ => M.bind (ms σ) fun ds => M.bind (mk σ) fun zs => M.bind (M.opt (permD perm (ds ++ zs))) fun as => F as) := by
  obtain ⟨o1, o2⟩ := Bool.and_eq_true_iff.mp (show (okE e && es.all okE) = true from ok)
  refine ⟨fun pins s σV H Q I h => ?_⟩
  refine wpAny_Call_Name_kw (ld_glob I hg hm ?_ hdb)
  refine PySem.W.callWith_KW (h₀ := X.base) I.ok.mod.kin hk hall (thn (ha.run pos pins s σV H _ I (kw_run len lenk hpl h)) fun us s1 ⟨vs, H1, I1, r, q⟩ => ?_) (by rw [hno, Bool.or_false]; exact stars_of ok _ _) (star_of o1 _ _)
  refine thn (hkw.run pos pins s1 σV H1 _ I1 q) fun ws s2 ⟨zs, H2, I2, rz, l1, l2, q2⟩ => ⟨I2.kIn, ?_⟩
  rw [hks]
  have r2 := hb.rel r rz
  refine wpAny_call (codeAny_mono (G.run X.A X.stack s2 H2 ⟨us, ks.zip ws⟩ _ _ Q (WE W σV) hr I2.env0 (hb.to s2 us ws I2.kIn (r.length.symm.trans l1) (rz.length.symm.trans l2)) r2 q2) fun r s' hq => ?_)
  cases r with
  | error e => exact passAt tk σV pins H2 s2 e s' I2 hq
  | ok fl =>
    cases fl with
    | ret u => exact I2.after hq
    | next => exact False.elim hq
    | brk => exact False.elim hq
    | cont => exact False.elim hq
theorem sE_callk0 (tk : Takes X W) (G : FnOk X.prog X.w X.K X.mg X.base (L2.CX X.prog X.w) k f fd ps (spM C ps.length F)) (hr : Room k X.A) (hg : Gl X x) (hm : X.mg x = some (.ref f)) (hk : PySem.W.keepIn X.K (.ref f) = true)
    (hb : KBn X.K fd ps 0 ks (permL perm) (permL perm)) (hdb : (x == ("__debug__" : Str)) = false) (hpl : perm.length = ps.length) (lenk : ∀ σ g ds g', mk σ g = some (.ok ds, g') → ds.length = ks.length)
    (hkw : PK X kws (liftA C W H0 ρ0 mk)) (hall : (backToKw pos (keywordEach kws X.env)).all (·.1.isSome) = true) (hks : (backToKw pos (keywordEach kws X.env)).filterMap (·.1) = ks) (hno : (backToKw pos (keywordEach kws X.env)).any (·.1.isNone) = false) :
    PE X (.Call (.Name x p) [] kws pos) (lift C W H0 ρ0 fun σ => M.bind (M.pure []) fun ds => M.bind (mk σ) fun zs => M.bind (M.opt (permD perm (ds ++ zs))) fun as => F as) := by
  refine ⟨fun pins s σV H Q I h => ?_⟩
  refine wpAny_Call_Name_kw (ld_glob I hg hm ?_ hdb)
  have h' := kw_run (ms := fun _ => M.pure []) (n := 0) (fun _ _ _ _ z => by obtain ⟨e, _⟩ := pure_some z; cases e; rfl) lenk hpl h
  obtain ⟨σ, ρ, g, h'⟩ := h'
  obtain ⟨F, hk'⟩ := At.pure h'
  have h2 := hk' ρ H F (.refl _ _) [] rfl
  refine PySem.W.callWith_KW0 (h₀ := X.base) I.ok.mod.kin hk hall (thn (hkw.run pos pins s σV H _ I h2) fun ws s2 ⟨zs, H2, I2, rz, l1, l2, q2⟩ => ⟨I2.kIn, ?_⟩) (by rw [hno]; rfl)
  rw [hks]
  have r2 := hb.rel (.nil : Vals [] []) rz
  refine wpAny_call (codeAny_mono (G.run X.A X.stack s2 H2 ⟨[], ks.zip ws⟩ _ _ Q (WE W σV) hr I2.env0 (hb.to s2 [] ws I2.kIn rfl (rz.length.symm.trans l2)) r2 q2) fun r s' hq => ?_)
  cases r with
  | error e => exact passAt tk σV pins H2 s2 e s' I2 hq
  | ok fl =>
    cases fl with
    | ret u => exact I2.after hq
    | next => exact False.elim hq
    | brk => exact False.elim hq
    | cont => exact False.elim hq
end
end
end MC
namespace MC
open PySem PySem.Spec L2
section
variable {T : Tab} {C : Cn} {Φ : Nat → List D → M D} {H0 : Hp} {ρ0 : Rho}
theorem snd2 {Γ : Gam} {X : Cx} {W : WX} {ex : Expr} {m : List Sl → M D} (Gd : Good T C Φ Γ X W) (p : plainT ex = true) (h : PE X ex (lift C W H0 ρ0 m)) : PE X ex (lift C W H0 ρ0 m) ∧ (okT ex = true → PT X ex (liftT C W H0 ρ0 (tru m))) := ⟨h, fun _ => sT_any Gd.K p h⟩
theorem liftA_eq {X : Cx} {W : WX} {m m' : List Sl → M (List D)} {e : List Expr} (h : PA X e (liftA C W H0 ρ0 m)) (q : ∀ σ, m σ = m' σ) : PA X e (liftA C W H0 ρ0 m') := by
  rw [show m' = m from (funext fun σ => (q σ).symm)]
  exact h
theorem liftI_eq {X : Cx} {W : WX} {m m' : List Sl → M (List D)} {tg e : Expr} (h : PI X tg e (liftI C W H0 ρ0 m)) (q : ∀ σ, m σ = m' σ) : PI X tg e (liftI C W H0 ρ0 m') := by
  rw [show m' = m from (funext fun σ => (q σ).symm)]
  exact h
theorem liftT_eq {X : Cx} {W : WX} {m m' : List Sl → M Bool} {e : Expr} (h : PT X e (liftT C W H0 ρ0 m)) (q : ∀ σ, m σ = m' σ) : PT X e (liftT C W H0 ρ0 m') := by
  rw [show m' = m from (funext fun σ => (q σ).symm)]
  exact h
theorem liftW_eq {X : Cx} {W : WX} {m m' : List Sl → M Bool} {e : Expr} (h : PW X e (liftT C W H0 ρ0 m)) (q : ∀ σ, m σ = m' σ) : PW X e (liftT C W H0 ρ0 m') := by
  rw [show m' = m from (funext fun σ => (q σ).symm)]
  exact h
theorem Good.ops {Γ : Gam} {X : Cx} {W : WX} (Gd : Good T C Φ Γ X W) (o : Op2) : OpR X (opSem o) (rD2 C (opD o)) := op_sound Gd.K (by have := Gd.rm.un; omega) o
theorem Good.bop {Γ : Gam} {X : Cx} {W : WX} (Gd : Good T C Φ Γ X W) {o : Op2} {op : Operator} (h : binB o op = true) : OpR X (binaryOp op) (rD2 C (opD o)) := by
  rw [← bin_of h]
  exact Gd.ops o
theorem Good.cop {Γ : Gam} {X : Cx} {W : WX} (Gd : Good T C Φ Γ X W) {o : Op2} {op : CmpOp} (h : cmpB o op = true) : OpR X (compareOp op) (rD2 C (opD o)) := by
  rw [← cmp_of h]
  exact Gd.ops o
theorem sE_pr {Γ : Gam} {X : Cx} {W : WX} (Gd : Good T C Φ Γ X W) {q : Pr} {x : Expr} {xs : List Expr} {ms : List Sl → M (List D)} {p pos : Pos} (ok : (x :: xs).all okE = true) (hb : T.bl.contains (prN q) = true) (hg : glB Γ.sc (prN q) = true) (ha : PA X (x :: xs) (liftA C W H0 ρ0 ms)) :
    PE X (.Call (.Name (prN q) p) (x :: xs) [] pos) (lift C W H0 ρ0 fun σ => M.bind (ms σ) fun ds => M.opt (prD q ds)) := by
  have g := Gd.gl hg
  have m := Gd.mdl.bl _ hb
  cases q with
  | len => exact sE_prim ok (snd_len Gd.K) g m (by decide +kernel) (by decide) (by decide) ha
  | all => exact sE_prim ok (snd_all Gd.K Gd.calm) g m (by decide +kernel) (by decide) (by decide) ha
  | any => exact sE_prim ok (snd_any Gd.K Gd.calm) g m (by decide +kernel) (by decide) (by decide) ha
  | sum => exact sE_prim ok (snd_sum Gd.K Gd.calm) g m (by decide +kernel) (by decide) (by decide) ha
  | max => exact sE_prim ok (snd_max Gd.K Gd.calm) g m (by decide +kernel) (by decide) (by decide) ha
  | min => exact sE_prim ok (snd_min Gd.K Gd.calm) g m (by decide +kernel) (by decide) (by decide) ha
  | sorted => exact sE_prim ok snd_sorted g m (by decide +kernel) (by decide) (by decide) ha
  | tuple => exact sE_primT ok (snd_tuple Gd.K) g m (by decide +kernel) (by decide) (by decide) ha
  | list => exact sE_primT ok (snd_list Gd.K) g m (by decide +kernel) (by decide) (by decide) ha
theorem ty_boot (t : Ty) : bootBuiltins (tyN t) = some (.type (tyName t)) ∧ tyN t ≠ "__name__" ∧ (tyN t == ("__debug__" : Str)) = false := by cases t <;> exact ⟨by decide +kernel, by decide, by decide⟩
theorem PTs.imp {X : Cx} {ifs : List Expr} {t t' : TT} (h : PTs X ifs t) (k : ∀ σ H Q, t' σ H Q → t σ H Q) : PTs X ifs t' := ⟨fun pins s σ H Q I hw => h.run pins s σ H Q I (k _ _ _ hw)⟩
theorem comp_eq (mi : List Sl → M (List D)) (tg : Tg) (own : List Nat) (test : List Sl → M Bool) (elt : List Sl → M D) (σ : List Sl) : (M.bind (compM mi tg own test elt σ) fun ds => M.pure (D.lst ds)) = M.bind (mi σ) fun items => M.bind (M.noex (compL tg test elt (clear own σ) items)) fun ds => M.pure (.lst ds) := by
  unfold compM
  rw [M.bind_assoc]
/-! ### all expressions -/
mutual
theorem sndE : ∀ (e : E) {Γ : Gam} {X : Cx} {W : WX} (ex : Expr), Good T C Φ Γ X W → chkE T Γ e ex = true → PE X ex (lift C W H0 ρ0 (ev Φ e)) ∧ (okT ex = true → PT X ex (liftT C W H0 ρ0 (tru (ev Φ e))))
  | .var i, Γ, X, W, ex, Gd, h => by
    unfold chkE at h
    split at h
    · simp only [Bool.and_eq_true, Bool.not_eq_true'] at h
      obtain ⟨⟨⟨h1, h2⟩, h3⟩, h4⟩ := h
      exact snd2 Gd rfl (lift_eq (sE_var (Gd.at_ h1) (by rw [Gd.sc]; exact vis_of h2) h3 h4) fun σ => by rw [ev])
    · cases h
  | .cst d, Γ, X, W, ex, Gd, h => by
    unfold chkE at h
    split at h
    · rename_i c j pos
      refine snd2 Gd rfl (lift_eq (m := fun _ => M.pure d) ?_ fun σ => by rw [ev])
      unfold cstB at h
      split at h
      · exact sE_cst pe_non fun _ _ => rfl
      · rename_i b c
        have e : b = c := by simpa using h
        subst e
        exact sE_cst pe_bl fun _ _ => rfl
      · rename_i b c
        have e : b = c := by simpa using h
        subst e
        exact sE_cst pe_int fun _ _ => rfl
      · rename_i b c
        have e : b = c := by simpa using h
        subst e
        exact sE_cst pe_str fun _ _ => rfl
      · cases h
    · cases h
  | .con x i, Γ, X, W, ex, Gd, h => by
    unfold chkE at h
    split at h
    · rename_i y pos
      simp only [Bool.and_eq_true, Bool.not_eq_true', decide_eq_true_eq] at h
      obtain ⟨⟨⟨h1, h2⟩, h3⟩, h4⟩ := h
      subst h1
      obtain ⟨u, hu, r⟩ := Gd.mdl.cn _ _ h3
      exact snd2 Gd rfl (lift_eq (m := fun _ => M.pure (.int i)) (sE_cst (pe_glob (Gd.gl h2) hu r h4) fun _ _ => rfl) fun σ => by rw [ev])
    · cases h
  | .tup es, Γ, X, W, ex, Gd, h => by
    unfold chkE at h
    split at h
    · rename_i xs kk pos
      simp only [Bool.and_eq_true, decide_eq_true_eq] at h
      obtain ⟨h1, h2⟩ := h
      have q := sndEs es xs Gd h1
      exact snd2 Gd rfl (lift_eq (sE_tup q fun σ g ds g' e => by rw [evs_len e, chkEs_len h1]; exact h2) fun σ => by rw [ev])
    · cases h
  | .lst es, Γ, X, W, ex, Gd, h => by
    unfold chkE at h
    split at h
    · rename_i xs pos
      simp only [Bool.and_eq_true, decide_eq_true_eq] at h
      obtain ⟨h1, h2⟩ := h
      have q := sndEs es xs Gd h1
      exact snd2 Gd rfl (lift_eq (sE_lst q fun σ g ds g' e => by rw [evs_len e, chkEs_len h1]; exact h2) fun σ => by rw [ev])
    · cases h
  | .op o a b, Γ, X, W, ex, Gd, h => by
    unfold chkE at h
    split at h
    · rename_i x op y pos
      simp only [Bool.and_eq_true] at h
      obtain ⟨⟨h1, h2⟩, h3⟩ := h
      exact snd2 Gd rfl (lift_eq (sE_bin (Gd.bop h1) (sndE a x Gd h2).1 (sndE b y Gd h3).1) fun σ => by rw [ev])
    · rename_i x op y pos
      simp only [Bool.and_eq_true] at h
      obtain ⟨⟨⟨h1, h0⟩, h2⟩, h3⟩ := h
      have q1 := (sndE a x Gd h2).1
      have q2 := (sndE b y Gd h3).1
      have eq : ∀ σ, (M.bind (ev Φ a σ) fun x => M.bind (ev Φ b σ) fun y => M.opt (opD o x y)) = ev Φ (.op o a b) σ := fun σ => by rw [ev]
      exact ⟨lift_eq (sE_cmp h0 (Gd.cop h1) q1 q2) eq, fun _ => liftT_eq (sT_cmp h0 (cmp_bl h1) (Gd.cop h1) q1 q2) fun σ => by unfold tru; rw [← eq]⟩
    · cases h
  | .chn o o' a b c, Γ, X, W, ex, Gd, h => by
    unfold chkE at h
    split at h
    · rename_i x op op' y z pos
      simp only [Bool.and_eq_true] at h
      obtain ⟨⟨⟨⟨⟨h1, h0⟩, h2⟩, h3⟩, h4⟩, h5⟩ := h
      have q1 := (sndE a x Gd h3).1
      have q2 := (sndE b y Gd h4).1
      have q3 := (sndE c z Gd h5).1
      have eq : ∀ σ, chnM (opD o) (opD o') (ev Φ a) (ev Φ b) (ev Φ c) σ = ev Φ (.chn o o' a b c) σ := fun σ => by rw [ev]; rfl
      exact ⟨lift_eq (sE_chn h2 (Gd.cop h1) (Gd.cop h0) q1 q2 q3) eq, fun _ => liftT_eq (sT_chn h2 (cmp_bl h0) (Gd.cop h1) (Gd.cop h0) q1 q2 q3) fun σ => by unfold tru; rw [eq]⟩
    · cases h
  | .and es, Γ, X, W, ex, Gd, h => by
    unfold chkE at h
    split at h
    · rename_i xs pos
      obtain ⟨q1, q2, _⟩ := sndB es xs pos Gd h
      have eq : ∀ σ, evAnd Φ es σ = ev Φ (.and es) σ := fun σ => by rw [ev]
      exact ⟨lift_eq q1 eq, fun _ => (liftW_eq q2 fun σ => by unfold tru; rw [eq]).pt⟩
    · cases h
  | .or es, Γ, X, W, ex, Gd, h => by
    unfold chkE at h
    split at h
    · rename_i xs pos
      obtain ⟨_, _, q1, q2⟩ := sndB es xs pos Gd h
      have eq : ∀ σ, evOr Φ es σ = ev Φ (.or es) σ := fun σ => by rw [ev]
      exact ⟨lift_eq q1 eq, fun _ => (liftW_eq q2 fun σ => by unfold tru; rw [eq]).pt⟩
    · cases h
  | .not e, Γ, X, W, ex, Gd, h => by
    unfold chkE at h
    split at h
    · rename_i x pos
      simp only [Bool.and_eq_true] at h
      obtain ⟨h1, h2⟩ := h
      obtain ⟨q1, q2⟩ := sndE e x Gd h2
      have eq : ∀ σ, (M.bind (ev Φ e σ) fun x => M.bind (M.opt (truth x)) fun t => M.pure (.bl (!t))) = ev Φ (.not e) σ := fun σ => by rw [ev]
      exact ⟨lift_eq (sE_not Gd.K q1) eq, fun _ => liftT_eq (sT_not (q2 h1)) fun σ => by unfold tru; rw [← eq]⟩
    · cases h
  | .neg e, Γ, X, W, ex, Gd, h => by
    unfold chkE at h
    split at h
    · rename_i x pos
      exact ⟨lift_eq (sE_neg (sndE e x Gd h).1) fun σ => by rw [ev] <;> congr 1, fun z => by cases z⟩
    · cases h
  | .ife c a b, Γ, X, W, ex, Gd, h => by
    unfold chkE at h
    split at h
    · rename_i x y z pos
      simp only [Bool.and_eq_true] at h
      obtain ⟨⟨⟨h1, h2⟩, h3⟩, h4⟩ := h
      exact ⟨lift_eq (sE_ife ((sndE c x Gd h2).2 h1) (sndE a y Gd h3).1 (sndE b z Gd h4).1) fun σ => by rw [ev]; rfl, fun z => by cases z⟩
    · cases h
  | .idx a b, Γ, X, W, ex, Gd, h => by
    unfold chkE at h
    split at h
    · rename_i x y pos
      simp only [Bool.and_eq_true] at h
      obtain ⟨⟨h1, h2⟩, h3⟩ := h
      exact snd2 Gd rfl (lift_eq (sE_idx Gd.K h1 (sndE a x Gd h2).1 (sndE b y Gd h3).1) fun σ => by rw [ev])
    · cases h
  | .slc a lo hi, Γ, X, W, ex, Gd, h => by
    unfold chkE at h
    split at h
    · rename_i x y z p2 pos
      simp only [Bool.and_eq_true] at h
      obtain ⟨⟨h1, h2⟩, h3⟩ := h
      exact snd2 Gd rfl (lift_eq (sE_slc Gd.K (sndE a x Gd h1).1 (sndO lo y Gd h2) (sndO hi z Gd h3)) fun σ => by rw [ev])
    · cases h
  | .call f es, Γ, X, W, ex, Gd, h => by
    unfold chkE at h
    split at h
    · rename_i x p xs pos
      simp only [Bool.and_eq_true, Bool.not_eq_true', decide_eq_true_eq] at h
      obtain ⟨⟨⟨⟨⟨⟨h1, h2⟩, h3⟩, h4⟩, h5⟩, h6⟩, h7⟩ := h
      subst h1
      obtain ⟨fd, ps, F, l, hm, hk, hb, _⟩ := Gd.mdl.fn f h2
      rw [← Gd.K] at F hk hb hm
      have q := sndEs es xs Gd h7
      cases xs with
      | nil =>
        have e0 : es = [] := by
          have := chkEs_len h7
          exact List.length_eq_zero_iff.mp this
        subst e0
        exact snd2 Gd rfl (lift_eq (sE_call0 Gd.tk F (Gd.rm.mono h2) (Gd.gl h4) hm hk hb h5 (by rw [l, h3]; rfl)) fun σ => by rw [ev, evs]; rfl)
      | cons x xs => exact snd2 Gd rfl (lift_eq (sE_call Gd.tk F (Gd.rm.mono h2) (Gd.gl h4) hm hk hb h5 h6 (fun σ g ds g' e => by rw [evs_len e, chkEs_len h7, l, h3]) q) fun σ => by rw [ev])
    · cases h
  | .callk f es ks perm, Γ, X, W, ex, Gd, h => by
    unfold chkE at h
    split at h
    · rename_i x p xs kws pos
      simp only [Bool.and_eq_true, Bool.not_eq_true', decide_eq_true_eq] at h
      obtain ⟨⟨⟨⟨⟨⟨⟨⟨h1, h2⟩, h3⟩, hp⟩, h4⟩, h5⟩, h6⟩, h7⟩, h8⟩ := h
      subst h1
      obtain ⟨fd, ps, F, l, hm, hk, hb, hkw⟩ := Gd.mdl.fn f h2
      have kb := hkw _ _ _ h3
      rw [← Gd.K] at F hk kb hm
      have q := sndEs es xs Gd h7
      obtain ⟨k1, k2, k3, k4⟩ := sndK ks kws Gd h8
      cases xs with
      | nil =>
        have e0 : es = [] := List.length_eq_zero_iff.mp (chkEs_len h7)
        subst e0
        exact snd2 Gd rfl (lift_eq (sE_callk0 Gd.tk F (Gd.rm.mono h2) (Gd.gl h4) hm hk kb h5 (by rw [hp, l]) (fun σ g ds g' e => by rw [evk_len e, List.length_map]) k1 (k2 pos) (k3 pos) (k4 pos)) fun σ => by rw [ev, evs])
      | cons x xs => exact snd2 Gd rfl (lift_eq (sE_callk Gd.tk F (Gd.rm.mono h2) (Gd.gl h4) hm hk kb h5 h6 (by rw [hp, l]) (fun σ g ds g' e => by rw [evs_len e, chkEs_len h7]) (fun σ g ds g' e => by rw [evk_len e, List.length_map]) q k1 (k2 pos) (k3 pos) (k4 pos)) fun σ => by rw [ev])
    · cases h
  | .prim q es, Γ, X, W, ex, Gd, h => by
    unfold chkE at h
    split at h
    · rename_i x p xs pos
      simp only [Bool.and_eq_true, Bool.not_eq_true', decide_eq_true_eq] at h
      obtain ⟨⟨⟨⟨⟨h1, h2⟩, h3⟩, h4⟩, h5⟩, h6⟩ := h
      subst h1
      cases xs with
      | nil => cases h4
      | cons x xs => exact snd2 Gd rfl (lift_eq (sE_pr Gd h5 h2 h3 (sndEs es _ Gd h6)) fun σ => by rw [ev])
    · cases h
  | .isi e t, Γ, X, W, ex, Gd, h => by
    unfold chkE at h
    split at h
    · rename_i x p y z p2 pos
      simp only [Bool.and_eq_true, decide_eq_true_eq] at h
      obtain ⟨⟨⟨⟨⟨⟨⟨h1, h2⟩, h3⟩, h4⟩, h5⟩, h6⟩, h7⟩, h8⟩ := h
      subst h1 h2
      obtain ⟨b1, b2, b3⟩ := ty_boot t
      exact snd2 Gd rfl (lift_eq (sE_isi Gd.K h7 (Gd.gl h5) (Gd.mdl.bl _ h3) (Gd.gl h6) (Gd.mdl.bl _ h4) b1 b2 b3 (sndE e y Gd h8).1) fun σ => by rw [ev])
    · cases h
  | .comp elt tg own it cs, Γ, X, W, ex, Gd, h => by
    unfold chkE at h
    split at h
    · rename_i x tge iter ifs scope pos
      simp only [Bool.and_eq_true, List.all_eq_true] at h
      obtain ⟨⟨⟨⟨⟨⟨h1, h2⟩, h3⟩, h4⟩, h5⟩, h6⟩, h7⟩ := h
      have bo : BlkOk X.N X.env.scope scope (ownOf Γ.N own) := by
        rw [Gd.N, Gd.sc]
        exact blkOk_by h1
      have q := sE_fz (sN_comp (pos := pos) Gd.calm Gd.nd Gd.K bo h2 (by rw [ownOf_ix]; exact fun i hi => by simpa using h3 i hi) (sndI it tge iter Gd h4) (fun s H Cc cl fp => sndG tg tge Gd.blk h5)
        (fun s H Cc cl fp => sndC cs ifs Gd.blk h6) (fun s H Cc cl fp => (sndE elt x Gd.blk h7).1))
      rw [ownOf_ix] at q
      exact snd2 Gd rfl (lift_eq q fun σ => by rw [comp_eq, ev])
    · cases h
  | .len_ i, Γ, X, W, ex, Gd, h => by
    unfold chkE at h
    cases h
  | .at_ i e, Γ, X, W, ex, Gd, h => by
    unfold chkE at h
    cases h
theorem sndEs : ∀ (es : List E) {Γ : Gam} {X : Cx} {W : WX} (xs : List Expr), Good T C Φ Γ X W → chkEs T Γ es xs = true → PA X xs (liftA C W H0 ρ0 (evs Φ es))
  | [], Γ, X, W, xs, Gd, h => by
    unfold chkEs at h
    split at h
    · exact liftA_eq sA_nil fun σ => by rw [evs]
    · cases h
  | e :: es, Γ, X, W, xs, Gd, h => by
    unfold chkEs at h
    split at h
    · rename_i x r
      simp only [Bool.and_eq_true] at h
      obtain ⟨⟨h1, h2⟩, h3⟩ := h
      exact liftA_eq (sA_cons h1 (sndE e x Gd h2).1 (sndEs es r Gd h3)) fun σ => by rw [evs]
    · cases h
theorem sndB : ∀ (es : List E) {Γ : Gam} {X : Cx} {W : WX} (xs : List Expr) (pos : Pos), Good T C Φ Γ X W → chkB T Γ es xs = true →
    PE X (.BoolOp .And xs pos) (lift C W H0 ρ0 (evAnd Φ es)) ∧ PW X (.BoolOp .And xs pos) (liftT C W H0 ρ0 (tru (evAnd Φ es))) ∧ PE X (.BoolOp .Or xs pos) (lift C W H0 ρ0 (evOr Φ es)) ∧ PW X (.BoolOp .Or xs pos) (liftT C W H0 ρ0 (tru (evOr Φ es)))
  | [], Γ, X, W, xs, pos, Gd, h => by
    unfold chkB at h
    cases h
  | [e], Γ, X, W, xs, pos, Gd, h => by
    unfold chkB at h
    split at h
    · rename_i x r
      simp only [Bool.and_eq_true] at h
      obtain ⟨⟨h1, h2⟩, h3⟩ := h
      cases r with
      | nil =>
        obtain ⟨q1, q2⟩ := sndE e x Gd h2
        have e1 : ∀ σ, ev Φ e σ = evAnd Φ [e] σ := fun σ => by rw [evAnd]
        have e2 : ∀ σ, ev Φ e σ = evOr Φ [e] σ := fun σ => by rw [evOr]
        exact ⟨lift_eq (pe_one q1) e1, liftW_eq (pw_and1 (q2 h1)) fun σ => by unfold tru; rw [e1], lift_eq (pe_one q1) e2, liftW_eq (pw_or1 (q2 h1)) fun σ => by unfold tru; rw [e2]⟩
      | cons _ _ => cases h3
    · cases h
  | e :: e' :: es, Γ, X, W, xs, pos, Gd, h => by
    unfold chkB at h
    split at h
    · rename_i x r
      simp only [Bool.and_eq_true] at h
      obtain ⟨⟨h1, h2⟩, h3⟩ := h
      cases r with
      | nil =>
        have h3 : chkB T Γ (e' :: es) [] = true := h3
        unfold chkB at h3
        cases h3
      | cons y r =>
        have h3 : chkB T Γ (e' :: es) (y :: r) = true := h3
        obtain ⟨q1, q2⟩ := sndE e x Gd h2
        obtain ⟨a1, a2, a3, a4⟩ := sndB (e' :: es) (y :: r) pos Gd h3
        have e1 : ∀ σ, andM (ev Φ e) (evAnd Φ (e' :: es)) σ = evAnd Φ (e :: e' :: es) σ := fun σ => by rw [evAnd]; rfl; intro z; cases z
        have e2 : ∀ σ, orM (ev Φ e) (evOr Φ (e' :: es)) σ = evOr Φ (e :: e' :: es) σ := fun σ => by rw [evOr]; rfl; intro z; cases z
        exact ⟨lift_eq (sE_and Gd.K q1 a1) e1, liftW_eq (sW_and (q2 h1) a2) fun σ => by unfold tru; rw [e1], lift_eq (sE_or Gd.K q1 a3) e2, liftW_eq (sW_or (q2 h1) a4) fun σ => by unfold tru; rw [e2]⟩
    · cases h
theorem sndK : ∀ (ks : List (Str × E)) {Γ : Gam} {X : Cx} {W : WX} (kws : List Keyword), Good T C Φ Γ X W → chkK T Γ ks kws = true → PK X kws (liftA C W H0 ρ0 (evk Φ ks)) ∧ (∀ pos, (backToKw pos (keywordEach kws X.env)).all (·.1.isSome) = true) ∧
    (∀ pos, (backToKw pos (keywordEach kws X.env)).filterMap (·.1) = ks.map (·.1)) ∧ ∀ pos, (backToKw pos (keywordEach kws X.env)).any (·.1.isNone) = false
  | [], Γ, X, W, kws, Gd, h => by
    unfold chkK at h
    split at h
    · exact ⟨by rw [show evk Φ [] = fun _ => M.pure [] from funext fun σ => by rw [evk]]; exact sK_nil, fun _ => rfl, fun _ => rfl, fun _ => rfl⟩
    · cases h
  | (k, e) :: ks, Γ, X, W, kws, Gd, h => by
    unfold chkK at h
    split at h
    · rename_i y x kp r
      simp only [Bool.and_eq_true, decide_eq_true_eq] at h
      obtain ⟨⟨h1, h2⟩, h3⟩ := h
      subst h1
      obtain ⟨a1, a2, a3, a4⟩ := sndK ks r Gd h3
      refine ⟨?_, fun pos => ?_, fun pos => ?_, fun pos => ?_⟩
      · rw [show evk Φ ((y, e) :: ks) = fun σ => M.bind (ev Φ e σ) fun d => M.bind (evk Φ ks σ) fun ds => M.pure (d :: ds) from funext fun σ => by rw [evk]]
        exact sK_cons (sndE e x Gd h2).1 a1
      · exact a2 pos
      · show y :: (backToKw pos (keywordEach r X.env)).filterMap (·.1) = _
        rw [a3 pos]
        rfl
      · exact a4 pos
    · cases h
theorem sndO : ∀ (o : Option E) {Γ : Gam} {X : Cx} {W : WX} (x : Option Expr), Good T C Φ Γ X W → chkO T Γ o x = true → PO X x (liftO C W H0 ρ0 (evo Φ o))
  | none, Γ, X, W, x, Gd, h => by
    unfold chkO at h
    split at h
    · rw [show evo Φ none = fun _ => M.pure none from funext fun σ => by rw [evo]]
      exact sO_none
    · cases h
  | some e, Γ, X, W, x, Gd, h => by
    unfold chkO at h
    split at h
    · rename_i y
      rw [show evo Φ (some e) = fun σ => M.bind (ev Φ e σ) fun x => match x with
        | .int i => M.pure (some i)
        | _ => M.fail from funext fun σ => by rw [evo] <;> congr 1]
      exact sO_some (sndE e y Gd h).1
    · cases h
theorem sndI : ∀ (it : It) {Γ : Gam} {X : Cx} {W : WX} (tg ex : Expr), Good T C Φ Γ X W → chkI T Γ it tg ex = true → PI X tg ex (liftI C W H0 ρ0 (evi Φ it))
  | .e e, Γ, X, W, tg, ex, Gd, h => by
    unfold chkI at h
    simp only [Bool.and_eq_true] at h
    exact liftI_eq (sI_e Gd.K (sndE e ex Gd h.1).1) fun σ => by rw [evi]
  | .rng es, Γ, X, W, tg, ex, Gd, h => by
    unfold chkI at h
    split at h
    · rename_i x p xs pos
      simp only [Bool.and_eq_true, decide_eq_true_eq, Bool.or_eq_true] at h
      obtain ⟨⟨⟨⟨⟨h1, h2⟩, h3⟩, h4⟩, h5⟩, h6⟩ := h
      subst h1
      have q := sndEs es xs Gd h6
      have l := chkEs_len h6
      match xs, h4, h5, q, l with
      | [a], h4, _, q, l => exact liftI_eq (sI_rng1 (by simpa using h4) (Gd.gl h3) (Gd.mdl.bl _ h2) q fun σ g ds g' e => by rw [evs_len e, l]; rfl) fun σ => by rw [evi]
      | [a, b], h4, _, q, l =>
        have h4 : okE a = true ∧ okE b = true := by simpa using h4
        exact liftI_eq (sI_rng2 h4.1 h4.2 (Gd.gl h3) (Gd.mdl.bl _ h2) q fun σ g ds g' e => by rw [evs_len e, l]; rfl) fun σ => by rw [evi]
      | [], _, h5, _, _ => simp at h5
      | _ :: _ :: _ :: _, _, h5, _, _ => simp at h5
    · cases h
  | .enum e, Γ, X, W, tg, ex, Gd, h => by
    unfold chkI at h
    split at h
    · rename_i x p y pos
      simp only [Bool.and_eq_true, decide_eq_true_eq] at h
      obtain ⟨⟨⟨⟨h1, h2⟩, h3⟩, h4⟩, h5⟩ := h
      subst h1
      exact liftI_eq (sI_enum Gd.K h4 (Gd.gl h3) (Gd.mdl.bl _ h2) (sndE e _ Gd h5).1) fun σ => by rw [evi]
    · cases h
  | .zip a b, Γ, X, W, tg, ex, Gd, h => by
    unfold chkI at h
    split at h
    · rename_i x p y z pos
      simp only [Bool.and_eq_true, decide_eq_true_eq] at h
      obtain ⟨⟨⟨⟨⟨⟨h1, h2⟩, h3⟩, h4⟩, h5⟩, h6⟩, h7⟩ := h
      subst h1
      exact liftI_eq (sI_zip Gd.K h4 h5 (Gd.gl h3) (Gd.mdl.bl _ h2) (sndE a _ Gd h6).1 (sndE b _ Gd h7).1) fun σ => by rw [evi]
    · cases h
theorem sndC : ∀ (cs : List E) {Γ : Gam} {X : Cx} {W : WX} (ifs : List Expr), Good T C Φ Γ X W → chkC T Γ cs ifs = true → PTs X ifs (liftT C W H0 ρ0 (evt Φ cs))
  | [], Γ, X, W, ifs, Gd, h => by
    unfold chkC at h
    split at h
    · rw [show evt Φ [] = fun _ => M.pure true from funext fun σ => by rw [evt]]
      exact sYes
    · cases h
  | [e], Γ, X, W, ifs, Gd, h => by
    unfold chkC at h
    split at h
    · rename_i x
      simp only [Bool.and_eq_true] at h
      rw [show evt Φ [e] = tru (ev Φ e) from funext fun σ => by rw [evt]; rfl]
      exact pts_one ((sndE e x Gd h.2).2 h.1)
    · cases h
  | _ :: _ :: _, Γ, X, W, ifs, Gd, h => by
    unfold chkC at h
    cases h
end
end
end MC
namespace MC
open PySem PySem.Spec L2
section
variable {C : Cn} {W : WX} {H0 : Hp} {ρ0 : Rho} {X : Cx} {σV : L2.St} {σ : List Sl} {ρ ρ' : Rho} {g g' : G} {H H' : Hp}
theorem Fm.stp (F : Fm C H0 ρ0 σ σV ρ g H) : Stp ρ0 H0 ρ H := ⟨F.ext, F.pre, F.nrh⟩
theorem Fm.free (F : Fm C H0 ρ0 σ σV ρ g H) {p : Addr} (n : H p = none) : H0 p = none := F.stp.none F.sto n
/-- where slot i is set -/
theorem set_split {i j : Nat} {s x : Sl} {ov y : Option V} (h1 : (σ.set i x)[j]? = some s) (h2 : (σV.set i y)[j]? = some ov) : (j = i ∧ s = x ∧ ov = y) ∨ (j ≠ i ∧ σ[j]? = some s ∧ σV[j]? = some ov) := by
  by_cases e : j = i
  · subst e
    have l1 : j < σ.length := by simpa using (List.getElem?_eq_some_iff.mp h1).1
    have l2 : j < σV.length := by simpa using (List.getElem?_eq_some_iff.mp h2).1
    rw [List.getElem?_set_self l1] at h1
    rw [List.getElem?_set_self l2] at h2
    cases h1
    cases h2
    exact .inl ⟨rfl, rfl, rfl⟩
  · rw [List.getElem?_set_ne (Ne.symm e)] at h1 h2
    exact .inr ⟨e, h1, h2⟩
/-- a new list at p goes to slot i -/
theorem Fm.setML (F : Fm C H0 ρ0 σ σV ρ g H) {i : Nat} {p : Addr} {vs : List V} {ds : List D} (e : H p = some (.lst vs)) (r : Reps C ρ H ds vs) (n0 : H0 p = none) (no : ∀ (j : Nat) s ov, σ[j]? = some s → σV[j]? = some ov → own s ov ≠ some p) :
    Fm C H0 ρ0 (σ.set i (.ml ds)) (σV.set i (some (.ref p))) ρ g H := by
  have nr : ¬ inRho ρ p := tup_not F.rok e (fun _ z => by cases z)
  refine ⟨by simp [F.len], fun j s ov h1 h2 => ?_, fun j k s t ov ow a h1 h2 h3 h4 h5 h6 => ?_, fun j s ov a h1 h2 h3 => ?_, F.ext, F.pre, F.nrh, F.sto⟩
  · rcases set_split h1 h2 with ⟨_, rfl, rfl⟩ | ⟨_, q1, q2⟩
    · exact ⟨p, vs, rfl, e, r⟩
    · exact F.rep j s ov q1 q2
  · rcases set_split h1 h2 with ⟨rfl, rfl, rfl⟩ | ⟨_, q1, q2⟩
    · cases (Option.some.inj h3 : p = a)
      rcases set_split h4 h5 with ⟨rfl, _⟩ | ⟨_, q3, q4⟩
      · rfl
      · exact absurd h6 (no k t ow q3 q4)
    · rcases set_split h4 h5 with ⟨rfl, rfl, rfl⟩ | ⟨_, q3, q4⟩
      · cases (Option.some.inj h6 : p = a)
        exact absurd h3 (no j s ov q1 q2)
      · exact F.sep j k s t ov ow a q1 q2 h3 q3 q4 h6
  · rcases set_split h1 h2 with ⟨_, rfl, rfl⟩ | ⟨_, q1, q2⟩
    · cases (Option.some.inj h3 : p = a)
      exact ⟨n0, nr⟩
    · exact F.new j s ov a q1 q2 h3
theorem no_own (F : Fm C H0 ρ0 σ σV ρ g H) {p : Addr} (n : H p = none) : ∀ (j : Nat) s ov, σ[j]? = some s → σV[j]? = some ov → own s ov ≠ some p := fun j s ov h1 h2 z => by
  obtain ⟨vs, q⟩ := (F.rep j s ov h1 h2).own_at z
  rw [n] at q
  cases q
theorem sigV_set {i : Nat} {x : V} (h : σV[i]? = some (some x)) : σV.set i (some x) = σV := by
  obtain ⟨hl, e⟩ := List.getElem?_eq_some_iff.mp h
  rw [← e]
  exact List.set_getElem_self hl
/-- slot i's list is changed -/
theorem Fm.updML (F : Fm C H0 ρ0 σ σV ρ g H) {i : Nat} {a : Addr} {l ds : List D} {vs ws : List V} (hs : σ[i]? = some (.ml l)) (hv : σV[i]? = some (some (.ref a))) (e : H a = some (.lst vs)) (r : Reps C ρ H ds ws) :
    Fm C H0 ρ0 (σ.set i (.ml ds)) σV ρ g (upd H a (.lst ws)) ∧ Keeps C.K H (upd H a (.lst ws)) := by
  have kp : Keeps C.K H (upd H a (.lst ws)) := keeps_upd e
  obtain ⟨n0, nr⟩ := F.new i _ _ a hs hv rfl
  refine ⟨?_, kp⟩
  have F2 : Fm C H0 ρ0 (σ.set i .un) σV ρ g H := F.forget1
  have F3 : Fm C H0 ρ0 (σ.set i .un) σV ρ g (upd H a (.lst ws)) := by
    refine ⟨F2.len, fun j s ov h1 h2 => ?_, F2.sep, F2.new, (F.stp.upd n0).ext, F2.pre, F2.nrh, F2.sto.upd e (fun _ z => by cases z)⟩
    · refine (F2.rep j s ov h1 h2).to kp (List.prefix_refl _) fun b us ho q => ?_
      have hj : j ≠ i := fun z => by
        subst z
        have l1 : j < σ.length := by simpa using (List.getElem?_eq_some_iff.mp h1).1
        rw [List.getElem?_set_self l1] at h1
        cases h1
        cases ov <;> cases ho
      rw [List.getElem?_set_ne (Ne.symm hj)] at h1
      have : b ≠ a := fun z => hj (F.sep j i s _ ov _ a h1 h2 (z ▸ ho) hs hv rfl)
      rw [upd_ne this]
      exact q
  have := F3.setML (i := i) (p := a) (vs := ws) (ds := ds) upd_same (r.to kp (List.prefix_refl _)) n0 fun j s ov h1 h2 z => ?_
  · rw [List.set_set, sigV_set hv] at this
    exact this
  · have hj : j ≠ i := fun q => by
      subst q
      have l1 : j < σ.length := by simpa using (List.getElem?_eq_some_iff.mp h1).1
      rw [List.getElem?_set_self l1] at h1
      cases h1
      cases ov <;> cases z
    rw [List.getElem?_set_ne (Ne.symm hj)] at h1
    exact hj (F.sep j i s _ ov _ a h1 h2 z hs hv rfl)
/-- slot i's list is frozen -/
theorem Fm.fz (F : Fm C H0 ρ0 σ σV ρ g H) {i : Nat} {a : Addr} {l : List D} {vs : List V} {o : Obj} (hs : σ[i]? = some (.ml l)) (hv : σV[i]? = some (some (.ref a))) (e : H a = some (.lst vs)) (r : Reps C ρ H l vs) :
    Fm C H0 ρ0 (σ.set i (.imm (.lst l))) σV ρ g (upd H a (.frz o (.lst vs))) ∧ Keeps C.K H (upd H a (.frz o (.lst vs))) := by
  have kp : Keeps C.K H (upd H a (.frz o (.lst vs))) := keeps_upd e
  obtain ⟨n0, nr⟩ := F.new i _ _ a hs hv rfl
  refine ⟨?_, kp⟩
  have F2 : Fm C H0 ρ0 (σ.set i .un) σV ρ g H := F.forget1
  have F3 : Fm C H0 ρ0 (σ.set i .un) σV ρ g (upd H a (.frz o (.lst vs))) := by
    refine ⟨F2.len, fun j s ov h1 h2 => ?_, F2.sep, F2.new, (F.stp.upd n0).ext, F2.pre, F2.nrh, F2.sto.upd e (fun _ z => by cases z)⟩
    refine (F2.rep j s ov h1 h2).to kp (List.prefix_refl _) fun b us ho q => ?_
    have hj : j ≠ i := fun z => by
      subst z
      have l1 : j < σ.length := by simpa using (List.getElem?_eq_some_iff.mp h1).1
      rw [List.getElem?_set_self l1] at h1
      cases h1
      cases ov <;> cases ho
    rw [List.getElem?_set_ne (Ne.symm hj)] at h1
    have : b ≠ a := fun z => hj (F.sep j i s _ ov _ a h1 h2 (z ▸ ho) hs hv rfl)
    rw [upd_ne this]
    exact q
  have := F3.set (i := i) (d := .lst l) (v := .ref a) ⟨a, vs, rfl, ⟨o, upd_same⟩, r.to kp (List.prefix_refl _)⟩
  rw [List.set_set, sigV_set hv] at this
  exact this
/-! ### statements -/
variable (C W H0 ρ0) in
def liftS (m : List Sl → M Flow') : TS := fun E σV H => ∃ σ ρ g, Fm C H0 ρ0 σ σV ρ g H ∧ ∃ r g', m σ g = some (r, g') ∧ match r with
  | .ok (.next σ') => ∀ σV' ρ' H', Fm C H0 ρ0 σ' σV' ρ' g' H' → Keeps C.K H H' → ρ <+: ρ' → E.nx σV' H'
  | .ok (.brk σ') => ∀ σV' ρ' H', Fm C H0 ρ0 σ' σV' ρ' g' H' → Keeps C.K H H' → ρ <+: ρ' → E.bk σV' H'
  | .ok (.cnt σ') => ∀ σV' ρ' H', Fm C H0 ρ0 σ' σV' ρ' g' H' → Keeps C.K H H' → ρ <+: ρ' → E.ct σV' H'
  | .ok (.ret d) => ∀ v ρ' H', Stp ρ0 H0 ρ' H' → Sto ρ' g' H' → Rep C ρ' H' d v → E.rt v H'
  | .ex c => ∀ σV' ρ' H', Stp ρ0 H0 ρ' H' → Sto ρ' g' H' → W (.ref (He.ga C.K c)) none σV' H'
theorem liftS_eq {m m' : List Sl → M Flow'} {st : Stmt} (h : PS X st (liftS C W H0 ρ0 m)) (q : ∀ σ, m σ = m' σ) : PS X st (liftS C W H0 ρ0 m') := by
  rw [show m' = m from (funext fun σ => (q σ).symm)]
  exact h
theorem liftSs_eq {m m' : List Sl → M Flow'} {st : List Stmt} (h : PSs X st (liftS C W H0 ρ0 m)) (q : ∀ σ, m σ = m' σ) : PSs X st (liftS C W H0 ρ0 m') := by
  rw [show m' = m from (funext fun σ => (q σ).symm)]
  exact h
/-- the wish behind a run of an expression -/
theorem exc_of {c : Str} {E : Prop} (h : ∀ σV' ρ' H', Stp ρ0 H0 ρ' H' → Sto ρ' g' H' → W (.ref (He.ga C.K c)) none σV' H') : ∀ ρ' H', Fm C H0 ρ0 σ σV ρ' g' H' → W (.ref (He.ga C.K c)) none σV H' := fun ρ' H' F => h σV ρ' H' F.stp F.sto
theorem sS_nil : PSs X [] (liftS C W H0 ρ0 fun σ => M.pure (.next σ)) := by
  refine PSs.imp pss_nil fun E σV H h => ?_
  obtain ⟨σ, ρ, g, F, r, g', hm, hk⟩ := h
  obtain ⟨rfl, rfl⟩ := pure_some hm
  exact hk σV ρ H F (.refl _) (List.prefix_refl _)
def seqM (m k : List Sl → M Flow') : List Sl → M Flow' := fun σ => M.bind (m σ) fun f => match f with
  | .next σ' => k σ'
  | f => M.pure f
/-- a later wish is weaker -/
theorem liftS_mono {m : List Sl → M Flow'} {E E' : Ends} (hn : ∀ σV' H', E.nx σV' H' → E'.nx σV' H') (hb : ∀ σV' H', E.bk σV' H' → E'.bk σV' H') (hc : ∀ σV' H', E.ct σV' H' → E'.ct σV' H') (hr : ∀ v H', E.rt v H' → E'.rt v H') (h : liftS C W H0 ρ0 m E σV H) : liftS C W H0 ρ0 m E' σV H := by
  obtain ⟨σ, ρ, g, F, r, g', hm, hk⟩ := h
  refine ⟨σ, ρ, g, F, r, g', hm, ?_⟩
  cases r with
  | ex c => exact hk
  | ok f =>
    cases f with
    | next σ' => exact fun a b c d e f => hn _ _ (hk a b c d e f)
    | brk σ' => exact fun a b c d e f => hb _ _ (hk a b c d e f)
    | cnt σ' => exact fun a b c d e f => hc _ _ (hk a b c d e f)
    | ret d => exact fun a b c d e f => hr _ _ (hk a b c d e f)
theorem seq_read {m k : List Sl → M Flow'} {E : Ends} (h : liftS C W H0 ρ0 (seqM m k) E σV H) : liftS C W H0 ρ0 m { E with nx := liftS C W H0 ρ0 k E } σV H := by
  obtain ⟨σ, ρ, g, F, r, g', hm, hk⟩ := h
  rcases bind_some hm with ⟨c, h1, rfl⟩ | ⟨f, g1, h1, h2⟩
  · exact ⟨σ, ρ, g, F, .ex c, g', h1, hk⟩
  cases f with
  | next σ' =>
    refine ⟨σ, ρ, g, F, .ok (.next σ'), g1, h1, fun σV1 ρ1 H1 F1 k1 p1 => ⟨σ', ρ1, g1, F1, r, g', h2, ?_⟩⟩
    cases r with
    | ex c => exact hk
    | ok f =>
      cases f with
      | next σ' => exact fun a b c d e f => hk a b c d (k1.trans e) (p1.trans f)
      | brk σ' => exact fun a b c d e f => hk a b c d (k1.trans e) (p1.trans f)
      | cnt σ' => exact fun a b c d e f => hk a b c d (k1.trans e) (p1.trans f)
      | ret d => exact hk
  | brk σ' =>
    obtain ⟨rfl, rfl⟩ := pure_some h2
    exact ⟨σ, ρ, g, F, _, _, h1, hk⟩
  | cnt σ' =>
    obtain ⟨rfl, rfl⟩ := pure_some h2
    exact ⟨σ, ρ, g, F, _, _, h1, hk⟩
  | ret d =>
    obtain ⟨rfl, rfl⟩ := pure_some h2
    exact ⟨σ, ρ, g, F, _, _, h1, hk⟩
theorem sS_cons {st : Stmt} {sts : List Stmt} {m k : List Sl → M Flow'} (h1 : PS X st (liftS C W H0 ρ0 m)) (h2 : PSs X sts (liftS C W H0 ρ0 k)) : PSs X (st :: sts) (liftS C W H0 ρ0 (seqM m k)) :=
  PSs.imp (pss_cons h1 h2) fun E σV H h => seq_read h
/-- a docstring, pass -/
theorem sS_skip {st : Stmt} {sts : List Stmt} {k : List Sl → M Flow'} (h1 : PS X st tNext) (h2 : PSs X sts (liftS C W H0 ρ0 k)) : PSs X (st :: sts) (liftS C W H0 ρ0 k) :=
  PSs.imp (pss_cons h1 h2) fun E σV H h => h
/-- ghost: slot i is frozen -/
theorem sS_fz {sts : List Stmt} {i : Nat} {k : List Sl → M Flow'} (h2 : PSs X sts (liftS C W H0 ρ0 k)) : PSs X sts (liftS C W H0 ρ0 (seqM (fun σ => fzS σ i) k)) := by
  refine ⟨fun pins s σV H E I h => ?_⟩
  have h := seq_read h
  obtain ⟨σ, ρ, g, F, r, g', hm, hk⟩ := h
  replace hm : fzS σ i g = some (r, g') := hm
  unfold fzS at hm
  cases e : slot σ i with
  | ml l =>
    rw [e] at hm
    obtain ⟨rfl, rfl⟩ := pure_some hm
    obtain ⟨a, vs, hv, ha, ra, hs⟩ := F.getL e
    obtain ⟨o, I'⟩ := inv_frz I ha
    obtain ⟨F', kp⟩ := F.fz (o := o) hs hv ha ra
    exact h2.run pins s σV _ E I' (hk σV ρ _ F' kp (List.prefix_refl _))
  | _ => rw [e] at hm; cases hm
/-- ghost: slots are forgotten -/
theorem sS_clr {sts : List Stmt} {is : List Nat} {k : List Sl → M Flow'} (h2 : PSs X sts (liftS C W H0 ρ0 k)) : PSs X sts (liftS C W H0 ρ0 (seqM (fun σ => M.pure (.next (clear is σ))) k)) := by
  refine PSs.imp h2 fun E σV H h => ?_
  have h := seq_read h
  obtain ⟨σ, ρ, g, F, r, g', hm, hk⟩ := h
  obtain ⟨rfl, rfl⟩ := pure_some hm
  exact hk σV ρ H (F.clear is) (.refl _) (List.prefix_refl _)
/-! ### small statements -/
theorem sS_ret {e : Expr} {m : List Sl → M D} {pos : Pos} (h : PE X e (lift C W H0 ρ0 m)) : PS X (.Return (some e) pos) (liftS C W H0 ρ0 fun σ => M.bind (m σ) fun d => M.pure (.ret d)) := by
  refine PS.imp (ps_ret h) fun E σV H h => ?_
  obtain ⟨σ, ρ, g, F, r, g', hm, hk⟩ := h
  rcases bind_some hm with ⟨c, h1, rfl⟩ | ⟨d, g1, h1, h2⟩
  · exact ⟨σ, ρ, g, F, .ex c, g', h1, exc_of (E := True) hk⟩
  · obtain ⟨rfl, rfl⟩ := pure_some h2
    exact ⟨σ, ρ, g, F, .ok d, _, h1, fun ρ' H' F' s' v rv => hk v ρ' H' F'.stp F'.sto rv⟩
theorem sS_exp {e : Expr} {m : List Sl → M D} {pos : Pos} (nc : noComp e = true) (h : PE X e (lift C W H0 ρ0 m)) : PS X (.Expr e pos) (liftS C W H0 ρ0 fun σ => M.bind (m σ) fun _ => M.pure (.next σ)) := by
  refine PS.imp (ps_expr h (swaps_of nc _ _ _)) fun E σV H h => ?_
  obtain ⟨σ, ρ, g, F, r, g', hm, hk⟩ := h
  rcases bind_some hm with ⟨c, h1, rfl⟩ | ⟨d, g1, h1, h2⟩
  · exact ⟨σ, ρ, g, F, .ex c, g', h1, exc_of (E := True) hk⟩
  · obtain ⟨rfl, rfl⟩ := pure_some h2
    exact ⟨σ, ρ, g, F, .ok d, _, h1, fun ρ' H' F' s' v rv => hk σV ρ' H' F' (s'.keeps F.rok) s'.pre⟩
theorem sS_brk {pos : Pos} : PS X (.Break pos) (liftS C W H0 ρ0 fun σ => M.pure (.brk σ)) := by
  refine PS.imp ps_break fun E σV H h => ?_
  obtain ⟨σ, ρ, g, F, r, g', hm, hk⟩ := h
  obtain ⟨rfl, rfl⟩ := pure_some hm
  exact hk σV ρ H F (.refl _) (List.prefix_refl _)
theorem sS_cnt {pos : Pos} : PS X (.Continue pos) (liftS C W H0 ρ0 fun σ => M.pure (.cnt σ)) := by
  refine PS.imp ps_continue fun E σV H h => ?_
  obtain ⟨σ, ρ, g, F, r, g', hm, hk⟩ := h
  obtain ⟨rfl, rfl⟩ := pure_some hm
  exact hk σV ρ H F (.refl _) (List.prefix_refl _)
theorem asg_read {m : List Sl → M D} {tg : Tg} {E : Ends} (h : liftS C W H0 ρ0 (fun σ => M.bind (m σ) fun d => M.bind (M.opt (put tg d σ)) fun σ' => M.pure (.next σ')) E σV H) : tAsg (lift C W H0 ρ0 m) (gT C.K tg) E σV H := by
  obtain ⟨σ, ρ, g, F, r, g', hm, hk⟩ := h
  rcases bind_some hm with ⟨c, h1, rfl⟩ | ⟨d, g1, h1, h2⟩
  · exact ⟨σ, ρ, g, F, .ex c, g', h1, exc_of (E := True) hk⟩
  rcases bind_some h2 with ⟨c, h3, _⟩ | ⟨σ', g2, h3, h4⟩
  · obtain ⟨_, _, z, _⟩ := opt_some h3
    cases z
  obtain ⟨σ'', e, ez, rfl⟩ := opt_some h3
  cases ez
  obtain ⟨rfl, rfl⟩ := pure_some h4
  exact ⟨σ, ρ, g, F, .ok d, _, h1, fun ρ1 H1 F1 s1 v rv => put_ok e F1 rv fun σV' _ F' => hk σV' ρ1 H1 F' (s1.keeps F.rok) s1.pre⟩
theorem sS_asgN {e : Expr} {m : List Sl → M D} {i : Nat} {x : Str} {pos px : Pos} (hN : X.N.Nodup) (hi : X.N[i]? = some x) (hx : L2.Loc X.env.scope x) (hf : X.fn x = true ∨ X.env.scope.names.lookup x = some .local) (nc : noComp e = true) (h : PE X e (lift C W H0 ρ0 m)) :
    PS X (.Assign [.Name x px] e pos) (liftS C W H0 ρ0 fun σ => M.bind (m σ) fun d => M.bind (M.opt (put (.n i) d σ)) fun σ' => M.pure (.next σ')) :=
  PS.imp (ps_set hN hi hx h (swaps_of nc _ _ _) hf) fun E σV H h => asg_read h
def noTup : Expr → Bool
  | .Tuple _ _ _ => false
  | _ => true
theorem sS_asgT {e : Expr} {m : List Sl → M D} {tg : Tg} {es : List Expr} {kk : Nat} {pos px : Pos} (hg : PG X (.Tuple es kk px) (gT C.K tg)) (nc : noComp e = true) (nt : noTup e = true) (h : PE X e (lift C W H0 ρ0 m)) :
    PS X (.Assign [.Tuple es kk px] e pos) (liftS C W H0 ρ0 fun σ => M.bind (m σ) fun d => M.bind (M.opt (put tg d σ)) fun σ' => M.pure (.next σ')) :=
  PS.imp (ps_asg h hg (by show swapsWith e (some (.Tuple es kk px)) pos.line X.env = pure false; exact swaps_of nc _ _ _) (by cases e <;> first | rfl | cases nt) rfl) fun E σV H h => asg_read h
end
end MC
namespace MC
open PySem PySem.Spec L2
section
variable {C : Cn} {W : WX} {H0 : Hp} {ρ0 : Rho} {X : Cx} {σV : L2.St} {σ : List Sl} {ρ ρ' : Rho} {g g' : G} {H H' : Hp}
theorem mlS_some {i : Nat} {r : R (List D)} (h : mlS σ i g = some (r, g')) : ∃ l, slot σ i = .ml l ∧ r = .ok l ∧ g' = g := by
  unfold mlS at h
  cases e : slot σ i with
  | ml l =>
    rw [e] at h
    obtain ⟨rfl, rfl⟩ := pure_some h
    exact ⟨l, rfl, rfl, rfl⟩
  | _ => rw [e] at h; cases h
/-! ### name = a new list -/
theorem new_read {m : List Sl → M D} {i : Nat} {E : Ends} (h : liftS C W H0 ρ0 (fun σ => M.bind (m σ) (newS σ i)) E σV H) : tAsg (liftN C W H0 ρ0 fun σ => M.bind (m σ) asL) (gName i) E σV H := by
  obtain ⟨σ, ρ, g, F, r, g', hm, hk⟩ := h
  rcases bind_some hm with ⟨c, h1, rfl⟩ | ⟨d, g1, h1, h2⟩
  · refine ⟨σ, ρ, g, F, .ex c, g', ?_, exc_of (E := True) hk⟩
    show M.bind (m σ) asL g = _
    unfold M.bind
    rw [h1]
  · cases d with
    | lst l =>
      have h2 : (if i < σ.length then M.pure (Flow'.next (σ.set i (.ml l))) else M.fail) g1 = some (r, g') := h2
      split at h2
      · obtain ⟨rfl, rfl⟩ := pure_some h2
        refine ⟨σ, ρ, g, F, .ok l, g', ?_, fun p vs ρ' H' hp st so e rv => ?_⟩
        · show M.bind (m σ) asL g = _
          unfold M.bind
          rw [h1]
          rfl
        · exact hk _ ρ' H' ((F.step st so).setML e rv (F.free hp) (no_own F hp)) (st.keeps F.rok) st.pre
      · cases h2
    | _ => cases h2
theorem sS_new {e : Expr} {m : List Sl → M D} {i : Nat} {x : Str} {pos px : Pos} (hN : X.N.Nodup) (hi : X.N[i]? = some x) (hx : L2.Loc X.env.scope x) (hf : X.fn x = true ∨ X.env.scope.names.lookup x = some .local)
    (nc : swapsWith e (some (.Name x px)) pos.line X.env = pure false) (h : PE X e (liftN C W H0 ρ0 fun σ => M.bind (m σ) asL)) : PS X (.Assign [.Name x px] e pos) (liftS C W H0 ρ0 fun σ => M.bind (m σ) (newS σ i)) :=
  PS.imp (ps_set hN hi hx h nc hf) fun E σV H h => new_read h
/-- is the comprehension's name stored within -/
def swC (sc scope : Scope) (y : Str) (py pos : Pos) : Bool := decide (sc.names.lookup y = some .local) && (py.line == pos.line) && !(scope.names.any fun (n, k) => n == y && (k == .local || k == .cell))
theorem sw_false {elt : Expr} {gs : List Comprehension} {scope : Scope} {pos py : Pos} {y : Str} {l : Nat} {env : Env} (h : swC env.scope scope y py pos = false) : swapsWith (.ListComp elt gs scope pos) (some (.Name y py)) l env = pure false := by
  show pure _ = pure false
  congr 1
  unfold swC at h
  have e : env.kindOf y = env.scope.names.lookup y := rfl
  rw [e]
  simp only [Expr.pos]
  cases h1 : (env.blockKind == ScopeKind.function)
  · simp
  · cases h2 : decide (env.scope.names.lookup y = some .local)
    · have : (env.scope.names.lookup y == some NameKind.local) = false := by
        have := of_decide_eq_false h2
        simpa using this
      rw [this]
      simp
    · rw [h2] at h
      have : (env.scope.names.lookup y == some NameKind.local) = true := by
        have := of_decide_eq_true h2
        rw [this]
        rfl
      rw [this]
      simpa using h
section
variable {elt tge iter : Expr} {ifs : List Expr} {scope : Scope} {pos spos py : Pos} {mi : List Sl → M (List D)} {tg : Tg} {own : List (Str × Nat)} {test : List Sl → M Bool} {me : List Sl → M D} {i : Nat} {y : Str}
theorem asL_eq (m : M (List D)) : M.bind (M.bind m fun ds => M.pure (D.lst ds)) asL = m := by
  rw [M.bind_assoc]
  exact M.bind_pure m
theorem sS_newC (hc : X.calm = true) (hN : X.N.Nodup) (hK : X.K = C.K) (hy : X.N[i]? = some y) (hx : L2.Loc X.env.scope y) (hf : X.fn y = true ∨ X.env.scope.names.lookup y = some .local) (hkd : X.env.scope.kind = .function) (ok : BlkOk X.N X.env.scope scope own) (oki : okE iter = true) (hin : ∀ i ∈ tgSlots tg, i ∈ own.map (·.2)) (hi : PI X tge iter (liftI C W H0 ρ0 mi))
    (hg : ∀ (s : Shared) (H : Hp) (Cc : Addr) (cl : List (Str × Addr)) (fp : List Addr), PG (X.blk s H scope (compEnvC scope cl Cc X.env) fp) tge (gT C.K tg))
    (ht : ∀ (s : Shared) (H : Hp) (Cc : Addr) (cl : List (Str × Addr)) (fp : List Addr), PTs (X.blk s H scope (compEnvC scope cl Cc X.env) fp) ifs (liftT C W0 H0 ρ0 test))
    (he : ∀ (s : Shared) (H : Hp) (Cc : Addr) (cl : List (Str × Addr)) (fp : List Addr), PE (X.blk s H scope (compEnvC scope cl Cc X.env) fp) elt (lift C W0 H0 ρ0 me)) :
    PS X (.Assign [.Name y py] (.ListComp elt [⟨tge, iter, ifs, 0⟩] scope pos) spos) (liftS C W H0 ρ0 fun σ => M.bind (M.bind (compM mi tg (own.map (·.2)) test me σ) fun ds => M.pure (.lst ds)) (newS σ i)) := by
  have rd : ∀ {E : Ends} {σV : L2.St} {H : Hp}, liftS C W H0 ρ0 (fun σ => M.bind (M.bind (compM mi tg (own.map (·.2)) test me σ) fun ds => M.pure (.lst ds)) (newS σ i)) E σV H → tAsg (liftN C W H0 ρ0 (compM mi tg (own.map (·.2)) test me)) (gName i) E σV H := fun {E σV H} h => by
    have := new_read h
    rw [show (fun σ => M.bind (M.bind (compM mi tg (own.map (·.2)) test me σ) fun ds => M.pure (D.lst ds)) asL) = compM mi tg (own.map (·.2)) test me from funext fun σ => asL_eq _] at this
    exact this
  cases hb : swC X.env.scope scope y py pos with
  | false => exact PS.imp (ps_set hN hy hx (sN_comp hc hN hK ok oki hin hi hg ht he) (sw_false hb) hf) fun E σV H h => rd h
  | true =>
    unfold swC at hb
    simp only [Bool.and_eq_true, decide_eq_true_eq, Bool.not_eq_true'] at hb
    exact PS.imp (ps_setLc hc hN hy hb.1.1 (sw_true hkd hb.1.1 hb.1.2 hb.2) hi ok hg ht he (folded_of oki X.env)) fun E σV H h => comp_read hin (rd h)
end
/-! ### a, b = x, y -/
theorem sw_two {x y : Str} {a b : Expr} {px py pt p2 : Pos} {kt k2 : Nat} {env : Env} (hk : env.scope.kind = .function) (hx : env.scope.names.lookup x = some .local) (hy : env.scope.names.lookup y = some .local) (hl : (py.line == px.line) = true) (hxy : (x == y) = false) (oa : okE a = true) (ob : okE b = true)
    (hf : [a, b].all (foldedForSure 8) = false) (hc : [a, b].all (constantsAlone 8) = false) : swappedStores [.Tuple [.Name x px, .Name y py] kt pt] (.Tuple [a, b] k2 p2) env = pure (some [x, y]) := by
  have hb : env.blockKind = .function := by unfold Env.blockKind; rw [hk]; rfl
  have kx : env.kindOf x = some .local := hx
  have ky : env.kindOf y = some .local := hy
  have na : ∀ e : Expr, okE e = true → (match e with | .Starred .. => true | _ => false) = false := fun e h => by cases e <;> first | rfl | cases h
  have lx : (px.line == px.line) = true := by simp
  unfold swappedStores
  simp only [hb, kx, ky, Expr.pos, List.any_cons, List.any_nil, na a oa, na b ob, List.head?_cons, Option.map_some, Option.getD_some, List.filterMap_cons, List.filterMap_nil, lx, hl, hf, hc]
  have yx : (y == x) = false := by
    rw [Bool.eq_false_iff] at hxy ⊢
    intro z
    exact hxy (by rw [show y = x by simpa using z]; simp)
  have : [x, y].eraseDups.length = 2 := by
    rw [List.eraseDups_cons, List.filter_cons, yx]
    rfl
  simp [this]
  intro h
  exfalso
  rcases h with h | h
  · revert h
    cases a <;> first | (intro h; cases h; done) | cases oa
  · revert h
    cases b <;> first | (intro h; cases h; done) | cases ob
theorem par_read {ms : List Sl → M (List D)} {i j : Nat} {E : Ends} (h : liftS C W H0 ρ0 (fun σ => M.bind (ms σ) fun ds => M.bind (M.opt (setAll [i, j] ds σ)) fun σ' => M.pure (.next σ')) E σV H) : tPar i j (liftA C W H0 ρ0 ms) E σV H := by
  obtain ⟨σ, ρ, g, F, r, g', hm, hk⟩ := h
  rcases bind_some hm with ⟨c, h1, rfl⟩ | ⟨ds, g1, h1, h2⟩
  · exact ⟨σ, ρ, g, F, .ex c, g', h1, exc_of (E := True) hk⟩
  rcases bind_some h2 with ⟨c, h3, _⟩ | ⟨σ', g2, h3, h4⟩
  · obtain ⟨_, _, z, _⟩ := opt_some h3
    cases z
  obtain ⟨σ'', e, ez, rfl⟩ := opt_some h3
  cases ez
  obtain ⟨rfl, rfl⟩ := pure_some h4
  refine ⟨σ, ρ, g, F, .ok ds, _, h1, fun ρ1 H1 F1 s1 vs rv => ?_⟩
  match ds, e with
  | [d1, d2], e =>
    obtain ⟨v, w, rfl, r1, r2⟩ := reps2 rv
    have e : (if i < σ.length then (if j < (σ.set i (.imm d1)).length then some ((σ.set i (.imm d1)).set j (.imm d2)) else none) else none) = some σ' := e
    split at e
    · split at e
      · cases e
        exact ⟨v, w, rfl, hk _ ρ1 H1 ((F1.set r1).set r2) (s1.keeps F.rok) s1.pre⟩
      · cases e
    · cases e
  | [], e => cases e
  | [_], e =>
    have e : (if i < σ.length then none else none) = some σ' := e
    split at e <;> cases e
  | d1 :: d2 :: d3 :: ds, e =>
    have e : (if i < σ.length then (if j < (σ.set i (.imm d1)).length then none else none) else none) = some σ' := e
    split at e
    · split at e <;> cases e
    · cases e
/-! ### changes of a list -/
theorem getL_run {i : Nat} {x : Str} {pos : Pos} (hN : X.N[i]? = some x) (hv : Vis X.env.scope x) (hd : (x == ("__debug__" : Str)) = false) (hcd : (x == ("__classdict__" : Str)) = false) : PE X (.Name x pos) (fun σV H Q => ∃ v, σV[i]? = some (some v) ∧ Q v H) := PE.imp (pe_var hN hv hd hcd) fun σV H Q h => h
theorem get_list : PGet X (fun o i H Q => ∃ p xs k v, o = .ref p ∧ i = .int k ∧ H p = some (.lst xs) ∧ atI xs k = some v ∧ Q v H) := by
  intro pins s σ H o i ov iv Q I ro ri h
  obtain ⟨p, xs, k, z, rfl, rfl, hp, he, q⟩ := h
  cases ro
  obtain ⟨t, rfl⟩ := ri
  obtain ⟨its, r, pl, hz⟩ := I.list (SqL.of hp)
  obtain ⟨j, h1, h2, h3, h4, h5⟩ := atI_get he
  obtain ⟨w, ew, rw'⟩ := r.get h2
  have hl := r.length
  have hn := line63
  have fin : EP X pins σ Q w s := ⟨z, H, I, rw', q⟩
  by_cases h0 : 0 ≤ k
  · have hj : k.toNat = j := by
      rw [seqIndex_of h0 h5] at h1
      exact Option.some.inj h1
    exact wpAny_getItem_list pl.isList h0 (by omega) (by rw [hj]; simpa using ew) fin
  · have hj : (k + (its.toArray.size : Int)).toNat = j := by
      rw [seqIndex_neg (by omega) h4] at h1
      rw [List.size_toArray, ← hl]
      exact Option.some.inj h1
    exact wpAny_getItem_list_neg pl.isList (by omega) (by rw [List.size_toArray] <;> omega) (by omega) (by rw [hj]; simpa using ew) fin
end
end MC
namespace MC
open PySem PySem.Spec L2
section
variable {C : Cn} {W : WX} {H0 : Hp} {ρ0 : Rho} {X : Cx} {σV : L2.St} {σ : List Sl} {ρ ρ' : Rho} {g g' : G} {H H' : Hp}
/-- slot i's list behind a run of an expression -/
theorem Fm.getI (F : Fm C H0 ρ0 σ σV ρ g H) {i : Nat} {a : Addr} {l : List D} (hs : σ[i]? = some (.ml l)) (hv : σV[i]? = some (some (.ref a))) : ∃ vs, H a = some (.lst vs) ∧ Reps C ρ H l vs := by
  obtain ⟨b, vs, e, h1, r⟩ := F.rep i _ _ hs hv
  cases e
  exact ⟨vs, h1, r⟩
theorem slot_of {i : Nat} {s : Sl} (h : slot σ i = s) (n : s ≠ .un) : σ[i]? = some s := by
  unfold slot at h
  rw [List.getD_eq_getElem?_getD] at h
  cases q : σ[i]? with
  | none => rw [q] at h; exact absurd h.symm n
  | some t => rw [q] at h; exact congrArg some h
theorem of_slot {i : Nat} {s : Sl} (h : σ[i]? = some s) : slot σ i = s := by
  unfold slot
  rw [List.getD_eq_getElem?_getD, h]
  rfl
theorem app_read {m : List Sl → M D} {i : Nat} {E : Ends} (hK : X.K = C.K) (h : liftS C W H0 ρ0 (fun σ => M.bind (mlS σ i) fun _ => M.bind (m σ) (appS σ i)) E σV H) :
    tDrop (tBM X.K "list" rAppend (fun σV H Q => ∃ v, σV[i]? = some (some v) ∧ Q v H) (tCons (lift C W H0 ρ0 m) tNil)) E σV H := by
  obtain ⟨σ, ρ, g, F, r, g', hm, hk⟩ := h
  rcases bind_some hm with ⟨c, h1, _⟩ | ⟨l, g1, h1, h2⟩
  · obtain ⟨_, _, z, _⟩ := mlS_some h1
    cases z
  obtain ⟨l', e, ez, eg⟩ := mlS_some h1
  cases ez
  subst eg
  obtain ⟨a, vs, hv, ha, ra, hs⟩ := F.getL e
  refine ⟨.ref a, hv, .inl ⟨rfl, vs, SqL.of ha⟩, ?_⟩
  rcases bind_some h2 with ⟨c, h3, rfl⟩ | ⟨d, g2, h3, h4⟩
  · exact ⟨σ, ρ, g1, F, .ex c, g', h3, exc_of (E := True) hk⟩
  refine ⟨σ, ρ, g1, F, .ok d, g2, h3, fun ρ1 H1 F1 s1 v rv => ?_⟩
  replace h4 : appS σ i d g2 = some (r, g') := h4
  unfold appS at h4
  rw [e] at h4
  replace h4 : (if l.length < sizeLine then M.pure (Flow'.next (σ.set i (.ml (l ++ [d])))) else M.fail) g2 = some (r, g') := h4
  split at h4
  · rename_i hz
    obtain ⟨rfl, rfl⟩ := pure_some h4
    obtain ⟨ws, h5, r5⟩ := F1.getI hs hv
    obtain ⟨F2, kp⟩ := F1.updML hs hv h5 (r5.snoc rv)
    exact ⟨a, ws, v, rfl, rfl, h5, by rw [r5.len]; exact hz, hk σV ρ1 _ F2 ((s1.keeps F.rok).trans kp) s1.pre⟩
  · cases h4
def rExtendF : V → List V → Hp → VK → Prop := fun x vs H Q => ∃ l b xs zs, x = .ref l ∧ vs = [.ref b] ∧ H l = some (.lst xs) ∧ LsH H b zs ∧ xs.length + zs.length ≤ sizeLine ∧ Q .non (upd H l (.lst (xs ++ zs)))
open PyProof.Rows in
theorem mt_extendF : MtM X "list.extend" rExtendF := by
  intro pins s σ H x vs v us Q I rx rv h
  obtain ⟨l, b, xs, zs, rfl, rfl, hH, hB, hz, q⟩ := h
  cases rx
  obtain ⟨u, rfl, ru⟩ := rv.one
  cases ru
  obtain ⟨z, its, n, r, hl, e⟩ := I.lstM hH
  obtain ⟨z2, its2, n2, r2, hl2, e2⟩ := lsM I hB
  have hsz : its.toArray.size + its2.toArray.size ≤ sizeLine := by rw [List.size_toArray, List.size_toArray]; omega
  have hlong : ¬ (!its.toArray.isEmpty && Builtin.List.listTooLong (its.toArray.size + its2.toArray.size)) = true := by
    rw [notLongL hsz, Bool.and_false]
    exact Bool.false_ne_true
  refine call_meets PySem.F.slot_list_extend ⟨_, e, rfl⟩ PySem.F.entry_list_extend (PySem.F.args_list_extend_2 _ _)
    (AutoSeq1.list_extend_list_list_0 l its.toArray n b its2.toArray n2 hlong (by rw [List.size_toArray]; omega) (by omega)) ⟨e, e2, ?_⟩
  refine ⟨.non, _, I.lset (its' := its ++ its2) hH e (by simp) (r.append r2) ?_, rfl, q⟩
  rw [List.length_append]
  omega
theorem ext_read {m : List Sl → M D} {i : Nat} {E : Ends} (hK : X.K = C.K) (h : liftS C W H0 ρ0 (fun σ => M.bind (mlS σ i) fun _ => M.bind (m σ) (extS σ i)) E σV H) :
    tDrop (tBM X.K "list" rExtendF (fun σV H Q => ∃ v, σV[i]? = some (some v) ∧ Q v H) (tCons (lift C W H0 ρ0 m) tNil)) E σV H := by
  obtain ⟨σ, ρ, g, F, r, g', hm, hk⟩ := h
  rcases bind_some hm with ⟨c, h1, _⟩ | ⟨l, g1, h1, h2⟩
  · obtain ⟨_, _, z, _⟩ := mlS_some h1
    cases z
  obtain ⟨l', e, ez, eg⟩ := mlS_some h1
  cases ez
  subst eg
  obtain ⟨a, vs, hv, ha, ra, hs⟩ := F.getL e
  refine ⟨.ref a, hv, .inl ⟨rfl, vs, SqL.of ha⟩, ?_⟩
  rcases bind_some h2 with ⟨c, h3, rfl⟩ | ⟨d, g2, h3, h4⟩
  · exact ⟨σ, ρ, g1, F, .ex c, g', h3, exc_of (E := True) hk⟩
  refine ⟨σ, ρ, g1, F, .ok d, g2, h3, fun ρ1 H1 F1 s1 v rv => ?_⟩
  replace h4 : extS σ i d g2 = some (r, g') := h4
  unfold extS at h4
  rw [e] at h4
  cases d with
  | lst m =>
    replace h4 : (if l.length + m.length ≤ sizeLine then M.pure (Flow'.next (σ.set i (.ml (l ++ m)))) else M.fail) g2 = some (r, g') := h4
    split at h4
    · rename_i hz
      obtain ⟨rfl, rfl⟩ := pure_some h4
      obtain ⟨ws, h5, r5⟩ := F1.getI hs hv
      obtain ⟨b, zs, rfl, fz, r6⟩ := rv
      obtain ⟨F2, kp⟩ := F1.updML hs hv h5 (r5.append r6)
      exact ⟨a, b, ws, zs, rfl, rfl, h5, .inr fz, by rw [r5.len, r6.len]; exact hz, hk σV ρ1 _ F2 ((s1.keeps F.rok).trans kp) s1.pre⟩
    · cases h4
  | _ => cases h4
section
variable {x : Str} {i : Nat} {p pa pc pos : Pos} {e : Expr} {m : List Sl → M D}
theorem few_of {e : Expr} (ok : okE e = true) (cpos : Pos) (env : Env) : ((backTo cpos (starEach [e] env)).all (fun x => !x.1) && (backToKw cpos (keywordEach [] env)).all (fun x => x.1.isSome)
      && decide ([e].length + ([] : List Keyword).length + (if ([] : List Keyword).isEmpty then 0 else 1) < 30)) = true := by
  rw [star_of ok]
  rfl
theorem sS_app (hK : X.K = C.K) (hN : X.N[i]? = some x) (hv : Vis X.env.scope x) (hd : (x == ("__debug__" : Str)) = false) (hcd : (x == ("__classdict__" : Str)) = false) (ok : okE e = true) (hl : (pa.endLine == pc.line) = true) (h : PE X e (lift C W H0 ρ0 m)) :
    PS X (.Expr (.Call (.Attribute (.Name x p) "append" pa) [e] [] pc) pos) (liftS C W H0 ρ0 fun σ => M.bind (mlS σ i) fun _ => M.bind (m σ) (appS σ i)) :=
  PS.imp (ps_expr (pe_bm PySem.F.plainAttrs_list PySem.F.slot_list_append PySem.F.type_list_append mt_append (getL_run hN hv hd hcd) (pa_cons h pa_nil (star_of ok _ _)) rfl (few_of ok _ _) hl (star_of ok _ _) rfl) rfl) fun E σV H h => app_read hK h
theorem sS_ext (hK : X.K = C.K) (hN : X.N[i]? = some x) (hv : Vis X.env.scope x) (hd : (x == ("__debug__" : Str)) = false) (hcd : (x == ("__classdict__" : Str)) = false) (ok : okE e = true) (hl : (pa.endLine == pc.line) = true) (h : PE X e (lift C W H0 ρ0 m)) :
    PS X (.Expr (.Call (.Attribute (.Name x p) "extend" pa) [e] [] pc) pos) (liftS C W H0 ρ0 fun σ => M.bind (mlS σ i) fun _ => M.bind (m σ) (extS σ i)) :=
  PS.imp (ps_expr (pe_bm PySem.F.plainAttrs_list PySem.F.slot_list_extend PySem.F.type_list_extend mt_extendF (getL_run hN hv hd hcd) (pa_cons h pa_nil (star_of ok _ _)) rfl (few_of ok _ _) hl (star_of ok _ _) rfl) rfl) fun E σV H h => ext_read hK h
end
/-! ### xs[i] = e, xs[i] op= e -/
theorem setS_some {i : Nat} {k v : D} {r : R Flow'} (h : setS σ i k v g = some (r, g')) : ∃ l n j, slot σ i = .ml l ∧ k = .int n ∧ ixN l.length n = some j ∧ r = .ok (.next (σ.set i (.ml (l.set j v)))) ∧ g' = g := by
  unfold setS at h
  cases e : slot σ i with
  | ml l =>
    rw [e] at h
    cases k with
    | int n =>
      replace h : (match ixN l.length n with
        | some j => M.pure (Flow'.next (σ.set i (.ml (l.set j v))))
        | none => M.fail) g = some (r, g') := h
      cases q : ixN l.length n with
      | none => rw [q] at h; cases h
      | some j =>
        rw [q] at h
        obtain ⟨rfl, rfl⟩ := pure_some h
        exact ⟨l, n, j, rfl, rfl, q, rfl, rfl⟩
    | _ => cases h
  | _ =>
    rw [e] at h
    cases k <;> cases h
/-- the store -/
theorem set_fin {i : Nat} {a : Addr} {k v : D} {kv w : V} {r : R Flow'} {Qn : Hp → Prop} (F : Fm C H0 ρ0 σ σV ρ g H) (hv : σV[i]? = some (some (.ref a))) (h : setS σ i k v g = some (r, g')) (rk : Rep C ρ H k kv) (rv : Rep C ρ H v w)
    (q : ∀ σ' H', r = .ok (.next σ') → Fm C H0 ρ0 σ' σV ρ g' H' → Keeps C.K H H' → Qn H') : rSetL (.ref a) kv w H Qn := by
  obtain ⟨l, n, j, e, rfl, hj, rfl, rfl⟩ := setS_some h
  have hs := slot_of e (by intro z; cases z)
  obtain ⟨ws, h5, r5⟩ := F.getI hs hv
  obtain ⟨F2, kp⟩ := F.updML hs hv h5 (r5.set rv j)
  exact ⟨a, ws, n, j, rfl, rk, h5, by rw [r5.len]; exact hj, q _ _ rfl F2 kp⟩
theorem setix_read {mv mk : List Sl → M D} {i : Nat} {E : Ends} (h : liftS C W H0 ρ0 (fun σ => M.bind (mv σ) fun d => M.bind (mlS σ i) fun _ => M.bind (mk σ) fun n => setS σ i n d) E σV H) :
    tAsg (lift C W H0 ρ0 mv) (gSub (fun σV H Q => ∃ v, σV[i]? = some (some v) ∧ Q v H) (lift C W H0 ρ0 mk) rSetL) E σV H := by
  obtain ⟨σ, ρ, g, F, r, g', hm, hk⟩ := h
  rcases bind_some hm with ⟨c, h1, rfl⟩ | ⟨d, g1, h1, h2⟩
  · exact ⟨σ, ρ, g, F, .ex c, g', h1, exc_of (E := True) hk⟩
  refine ⟨σ, ρ, g, F, .ok d, g1, h1, fun ρ1 H1 F1 s1 w rw' => ?_⟩
  rcases bind_some h2 with ⟨c, h3, _⟩ | ⟨l, g2, h3, h4⟩
  · obtain ⟨_, _, z, _⟩ := mlS_some h3
    cases z
  obtain ⟨l', e, ez, eg⟩ := mlS_some h3
  cases ez
  subst eg
  obtain ⟨a, vs, hv, ha, ra, hs⟩ := F1.getL e
  refine ⟨.ref a, hv, ?_⟩
  rcases bind_some h4 with ⟨c, h5, rfl⟩ | ⟨n, g3, h5, h6⟩
  · exact ⟨σ, ρ1, g2, F1, .ex c, g', h5, exc_of (E := True) hk⟩
  refine ⟨σ, ρ1, g2, F1, .ok n, g3, h5, fun ρ2 H2 F2 s2 kv rk => set_fin F2 hv h6 rk (rw'.to (s2.keeps F1.rok) s2.pre) fun σ' H' er F' kp => ?_⟩
  subst er
  exact hk σV ρ2 H' F' (((s1.keeps F.rok).trans (s2.keeps F1.rok)).trans kp) (s1.pre.trans s2.pre)
theorem augI_some {o : Op2} {x y d : D} (h : augI o x y = some d) : ∃ i j, x = .int i ∧ y = .int j ∧ ((o = .add ∧ d = .int (i + j)) ∨ (o = .sub ∧ d = .int (i - j))) := by
  cases o <;> cases x <;> cases y <;> first
    | (cases (Option.some.inj h); exact ⟨_, _, rfl, rfl, .inl ⟨rfl, rfl⟩⟩)
    | (cases (Option.some.inj h); exact ⟨_, _, rfl, rfl, .inr ⟨rfl, rfl⟩⟩)
    | cases h
def ipO : Op2 → TIp
  | .add => ipI fun i j => i + j
  | _ => ipI fun i j => i - j
theorem aug_ip {o : Op2} {x y d : D} {v w : V} {H : Hp} {Q : VK} (h : augI o x y = some d) (rx : Rep C ρ H x v) (ry : Rep C ρ H y w) (q : ∀ u, Rep C ρ H d u → Q u H) : ipO o v w H Q := by
  obtain ⟨i, j, rfl, rfl, ⟨rfl, rfl⟩ | ⟨rfl, rfl⟩⟩ := augI_some h
  · exact ⟨i, j, rx, ry, q _ rfl⟩
  · exact ⟨i, j, rx, ry, q _ rfl⟩
theorem augix_read {mv mk : List Sl → M D} {i : Nat} {o : Op2} {E : Ends} (h : liftS C W H0 ρ0 (fun σ => M.bind (mlS σ i) fun _ => M.bind (mk σ) fun n => M.bind (getS σ i n) fun x => M.bind (mv σ) fun y => M.bind (M.opt (augI o x y)) fun z => setS σ i n z) E σV H) :
    tAugS (fun σV H Q => ∃ v, σV[i]? = some (some v) ∧ Q v H) (lift C W H0 ρ0 mk) (lift C W H0 ρ0 mv) (fun o i H Q => ∃ p xs k v, o = .ref p ∧ i = .int k ∧ H p = some (.lst xs) ∧ atI xs k = some v ∧ Q v H) (ipO o) rSetL E σV H := by
  obtain ⟨σ, ρ, g, F, r, g', hm, hk⟩ := h
  rcases bind_some hm with ⟨c, h1, _⟩ | ⟨l, g1, h1, h2⟩
  · obtain ⟨_, _, z, _⟩ := mlS_some h1
    cases z
  obtain ⟨l', e, ez, eg⟩ := mlS_some h1
  cases ez
  subst eg
  obtain ⟨a, vs, hv, ha, ra, hs⟩ := F.getL e
  refine ⟨.ref a, hv, ?_⟩
  rcases bind_some h2 with ⟨c, h3, rfl⟩ | ⟨n, g2, h3, h4⟩
  · exact ⟨σ, ρ, g1, F, .ex c, g', h3, exc_of (E := True) hk⟩
  refine ⟨σ, ρ, g1, F, .ok n, g2, h3, fun ρ1 H1 F1 s1 kv rk => ?_⟩
  have gx : ∃ x, ixOf (.lst l) n = some x ∧ (M.bind (mv σ) fun y => M.bind (M.opt (augI o x y)) fun z => setS σ i n z) g2 = some (r, g') := by
    rcases bind_some h4 with ⟨c, h5, _⟩ | ⟨x, g3, h5, h6⟩
    · unfold getS at h5
      rw [e] at h5
      obtain ⟨_, _, z, _⟩ := opt_some h5
      cases z
    · unfold getS at h5
      rw [e] at h5
      obtain ⟨x', ex, z, eg⟩ := opt_some h5
      cases z
      subst eg
      exact ⟨x, ex, h6⟩
  obtain ⟨x, ex, h6⟩ := gx
  obtain ⟨ws, h7, r7⟩ := F1.getI hs hv
  cases n with
  | int k =>
    have ex : atI l k = some x := ex
    obtain ⟨xv, ea, rx⟩ := atI_rep r7 ex
    refine ⟨a, ws, k, xv, rfl, rk, h7, ea, ?_⟩
    rcases bind_some h6 with ⟨c, h8, rfl⟩ | ⟨y, g4, h8, h9⟩
    · exact ⟨σ, ρ1, g2, F1, .ex c, g', h8, exc_of (E := True) hk⟩
    refine ⟨σ, ρ1, g2, F1, .ok y, g4, h8, fun ρ2 H2 F2 s2 yv ry => ?_⟩
    rcases bind_some h9 with ⟨c, h10, _⟩ | ⟨z, g5, h10, h11⟩
    · obtain ⟨_, _, z, _⟩ := opt_some h10
      cases z
    obtain ⟨z', e10, ez, eg⟩ := opt_some h10
    cases ez
    subst eg
    refine aug_ip e10 (rx.to (s2.keeps F1.rok) s2.pre) ry fun u ru => set_fin F2 hv h11 (rk.to (s2.keeps F1.rok) s2.pre) ru fun σ' H' er F' kp => ?_
    subst er
    exact hk σV ρ2 H' F' (((s1.keeps F.rok).trans (s2.keeps F1.rok)).trans kp) (s1.pre.trans s2.pre)
  | _ => cases ex
theorem aug_read {me : List Sl → M D} {i : Nat} {o : Op2} {E : Ends} (h : liftS C W H0 ρ0 (fun σ => M.bind (slotD σ i) fun x => M.bind (me σ) fun y => M.bind (M.opt (augI o x y)) fun z => M.pure (.next (σ.set i (.imm z)))) E σV H) :
    tAug i (lift C W H0 ρ0 me) (ipO o) E σV H := by
  obtain ⟨σ, ρ, g, F, r, g', hm, hk⟩ := h
  have gx : ∃ x, slot σ i = .imm x ∧ (M.bind (me σ) fun y => M.bind (M.opt (augI o x y)) fun z => M.pure (Flow'.next (σ.set i (.imm z)))) g = some (r, g') := by
    rcases bind_some hm with ⟨c, h5, _⟩ | ⟨x, g3, h5, h6⟩
    · unfold slotD at h5
      cases e : slot σ i with
      | imm d =>
        rw [e] at h5
        obtain ⟨z, _⟩ := pure_some h5
        cases z
      | _ => rw [e] at h5; cases h5
    · unfold slotD at h5
      cases e : slot σ i with
      | imm d =>
        rw [e] at h5
        obtain ⟨z, eg⟩ := pure_some h5
        cases z
        subst eg
        exact ⟨x, rfl, h6⟩
      | _ => rw [e] at h5; cases h5
  obtain ⟨x, ex, h6⟩ := gx
  obtain ⟨xv, hv, rx⟩ := F.get ex
  refine ⟨xv, hv, ?_⟩
  rcases bind_some h6 with ⟨c, h8, rfl⟩ | ⟨y, g4, h8, h9⟩
  · exact ⟨σ, ρ, g, F, .ex c, g', h8, exc_of (E := True) hk⟩
  refine ⟨σ, ρ, g, F, .ok y, g4, h8, fun ρ2 H2 F2 s2 yv ry => ?_⟩
  rcases bind_some h9 with ⟨c, h10, _⟩ | ⟨z, g5, h10, h11⟩
  · obtain ⟨_, _, z, _⟩ := opt_some h10
    cases z
  obtain ⟨z', e10, ez, eg⟩ := opt_some h10
  cases ez
  subst eg
  obtain ⟨rfl, rfl⟩ := pure_some h11
  exact aug_ip e10 (rx.to (s2.keeps F.rok) s2.pre) ry fun u ru => hk _ ρ2 H2 (F2.set ru) (s2.keeps F.rok) s2.pre
/-! ### if -/
def ifS (mc : List Sl → M D) (ma mb : List Sl → M Flow') : List Sl → M Flow' := fun σ => M.bind (mc σ) fun x => M.bind (M.opt (truth x)) fun t => match t with
  | true => ma σ
  | false => mb σ
theorem sS_ife {c : Expr} {a b : List Stmt} {mc : List Sl → M D} {ma mb : List Sl → M Flow'} {pos : Pos} (hc : PT X c (liftT C W H0 ρ0 (tru mc))) (ha : PSs X a (liftS C W H0 ρ0 ma)) (hb : PSs X b (liftS C W H0 ρ0 mb)) : PS X (.If c a b pos) (liftS C W H0 ρ0 (ifS mc ma mb)) := by
  refine PS.imp (ps_if hc ha hb) fun E σV H h => ?_
  obtain ⟨σ, ρ, g, F, r, g', hm, hk⟩ := h
  unfold ifS at hm
  rw [← M.bind_assoc] at hm
  rcases bind_some hm with ⟨c, h1, rfl⟩ | ⟨t, g1, h1, h2⟩
  · exact ⟨σ, ρ, g, F, .ex c, g', h1, exc_of (E := True) hk⟩
  refine ⟨σ, ρ, g, F, .ok t, g1, h1, fun ρ1 H1 F1 s1 => ?_⟩
  have fin : ∀ m : List Sl → M Flow', m σ g1 = some (r, g') → liftS C W H0 ρ0 m E σV H1 := fun m hmm => by
    refine ⟨σ, ρ1, g1, F1, r, g', hmm, ?_⟩
    cases r with
    | ex c => exact hk
    | ok f =>
      cases f with
      | next σ' => exact fun a b c d e f => hk a b c d ((s1.keeps F.rok).trans e) (s1.pre.trans f)
      | brk σ' => exact fun a b c d e f => hk a b c d ((s1.keeps F.rok).trans e) (s1.pre.trans f)
      | cnt σ' => exact fun a b c d e f => hk a b c d ((s1.keeps F.rok).trans e) (s1.pre.trans f)
      | ret d => exact hk
  cases t with
  | true => exact fin ma h2
  | false => exact fin mb h2
end
end MC
namespace MC
open PySem PySem.Spec L2
section
variable {C : Cn} {W : WX} {H0 : Hp} {ρ0 : Rho} {X : Cx} {σV : L2.St} {σ : List Sl} {ρ ρ' : Rho} {g g' : G} {H H' : Hp}
/-! ### for -/
theorem for_read {mi : List Sl → M (List D)} {body : List Sl → M Flow'} {tg : Tg} {tmp : List Nat} {E : Ends} (h : liftS C W H0 ρ0 (fun σ => M.bind (mi σ) fun items => loopF body tg tmp items σ) E σV H) : tFor (liftI C W H0 ρ0 mi) (gT C.K tg) (liftS C W H0 ρ0 body) E σV H := by
  obtain ⟨σ, ρ, g, F, r, g', hm, hk⟩ := h
  rcases bind_some hm with ⟨c, h1, rfl⟩ | ⟨items, g1, h1, h2⟩
  · exact ⟨σ, ρ, g, F, .ex c, g', h1, exc_of (E := True) hk⟩
  refine ⟨σ, ρ, g, F, .ok items, g1, h1, fun ρ1 H1 F1 s1 J hJ => ?_⟩
  have k01 := s1.keeps (K := C.K) F.rok
  let St (i : Nat) (σVi : L2.St) (Hi : Hp) : Prop := ∃ σi ρi gi, Fm C H0 ρ0 σi σVi ρi gi Hi ∧ Keeps C.K H1 Hi ∧ ρ1 <+: ρi ∧ loopF body tg tmp (items.drop i) σi gi = some (r, g')
  refine ⟨fun i m σVi Hi => m = items.length - i ∧ i ≤ items.length ∧ St i σVi Hi, ⟨items.length, by simp, Nat.zero_le _, σ, ρ1, g1, F1, .refl _, List.prefix_refl _, by simpa using h2⟩, ?_⟩
  rintro i m σVi Hi ⟨rfl, hi, σi, ρi, gi, Fi, ki, pi, hr⟩
  by_cases hlt : i < items.length
  · have hd : items[i]? = some items[i] := List.getElem?_eq_getElem hlt
    rw [drop_cons items i _ hd] at hr
    rcases bind_some hr with ⟨c, h3, _⟩ | ⟨σa, g2, h3, h4⟩
    · obtain ⟨_, _, z, _⟩ := opt_some h3
      cases z
    obtain ⟨σb, e1, ez, eg⟩ := opt_some h3
    cases ez
    subst eg
    refine .inr ⟨hJ.go i Hi ki hlt, St (i + 1), fun σ' H' s' => ⟨items.length - (i + 1), by omega, rfl, hlt, s'⟩, fun x H' y => ?_⟩
    obtain ⟨gr, rx⟩ := hJ.yld i Hi x H' _ ki hd y
    refine put_ok e1 (Fi.grow gr) (rx ρi pi) fun σV2 _ F2 => ?_
    have k2 : Keeps C.K H1 H' := ki.trans gr.keeps
    rcases bind_some h4 with ⟨c, h5, rfl⟩ | ⟨f, g3, h5, h6⟩
    · exact ⟨σa, ρi, g2, F2, .ex c, g', h5, hk⟩
    refine ⟨σa, ρi, g2, F2, .ok f, g3, h5, ?_⟩
    cases f with
    | next σ2 => exact fun σV' ρ' H'' F' k' p' => ⟨clear tmp σ2, ρ', g3, F'.clear tmp, k2.trans k', pi.trans p', h6⟩
    | cnt σ2 => exact fun σV' ρ' H'' F' k' p' => ⟨clear tmp σ2, ρ', g3, F'.clear tmp, k2.trans k', pi.trans p', h6⟩
    | brk σ2 =>
      obtain ⟨rfl, rfl⟩ := pure_some h6
      exact fun σV' ρ' H'' F' k' p' => hk σV' ρ' H'' (F'.clear tmp) (k01.trans (k2.trans k')) (s1.pre.trans (pi.trans p'))
    | ret d =>
      obtain ⟨rfl, rfl⟩ := pure_some h6
      exact hk
  · have e : i = items.length := by omega
    subst e
    rw [List.drop_length] at hr
    obtain ⟨rfl, rfl⟩ := pure_some hr
    exact .inl ⟨hJ.stop Hi ki, hk σVi ρi Hi Fi (k01.trans ki) (s1.pre.trans pi)⟩
/-! ### while -/
theorem while_read {c : List Sl → M Bool} {body : List Sl → M Flow'} {fuel : Nat} {E : Ends} (h : liftS C W H0 ρ0 (fun σ => whilF c body fuel σ) E σV H) : tWhile (liftT C W H0 ρ0 c) (liftS C W H0 ρ0 body) E σV H := by
  obtain ⟨σ, ρ, g, F, r, g', hm, hk⟩ := h
  refine ⟨fun m σVi Hi => ∃ σi ρi gi, Fm C H0 ρ0 σi σVi ρi gi Hi ∧ Keeps C.K H Hi ∧ ρ <+: ρi ∧ whilF c body m σi gi = some (r, g'), ⟨fuel, σ, ρ, g, F, .refl _, List.prefix_refl _, hm⟩, ?_⟩
  rintro m σVi Hi ⟨σi, ρi, gi, Fi, ki, pi, hr⟩
  cases m with
  | zero => cases hr
  | succ m =>
    rcases bind_some hr with ⟨ec, h1, rfl⟩ | ⟨t, g1, h1, h2⟩
    · exact ⟨σi, ρi, gi, Fi, .ex ec, g', h1, exc_of (E := True) hk⟩
    refine ⟨σi, ρi, gi, Fi, .ok t, g1, h1, fun ρ1 H1 F1 s1 => ?_⟩
    have k1 : Keeps C.K H H1 := ki.trans (s1.keeps Fi.rok)
    have p1 : ρ <+: ρ1 := pi.trans s1.pre
    cases t with
    | false =>
      obtain ⟨rfl, rfl⟩ := pure_some h2
      show if false = true then _ else _
      rw [if_neg Bool.false_ne_true]
      exact hk σVi ρ1 H1 F1 k1 p1
    | true =>
      show if true = true then _ else _
      rw [if_pos rfl]
      refine ⟨fun σV' H' => ∃ σi ρi gi, Fm C H0 ρ0 σi σV' ρi gi H' ∧ Keeps C.K H H' ∧ ρ <+: ρi ∧ whilF c body m σi gi = some (r, g'), fun σV' H' n => ⟨m, Nat.lt_succ_self m, n⟩, ?_⟩
      rcases bind_some h2 with ⟨ec, h3, rfl⟩ | ⟨f, g2, h3, h4⟩
      · exact ⟨σi, ρ1, g1, F1, .ex ec, g', h3, hk⟩
      refine ⟨σi, ρ1, g1, F1, .ok f, g2, h3, ?_⟩
      cases f with
      | next σ2 => exact fun σV' ρ' H'' F' k' p' => ⟨σ2, ρ', g2, F', k1.trans k', p1.trans p', h4⟩
      | cnt σ2 => exact fun σV' ρ' H'' F' k' p' => ⟨σ2, ρ', g2, F', k1.trans k', p1.trans p', h4⟩
      | brk σ2 =>
        obtain ⟨rfl, rfl⟩ := pure_some h4
        exact fun σV' ρ' H'' F' k' p' => hk σV' ρ' H'' F' (k1.trans k') (p1.trans p')
      | ret d =>
        obtain ⟨rfl, rfl⟩ := pure_some h4
        exact hk
/-! ### raise -/
theorem sS_raise {x m : Str} {j : Nat} {p p2 p3 pos : Pos} (hc : X.calm = true) (hK : X.K = C.K) (tk : Takes X W) (hg : Gl X x) (hx : ExcOk C.K X.mg x) (hdb : (x == ("__debug__" : Str)) = false) :
    PS X (.Raise (some (.Call (.Name x p) [.Constant (.str m) j p2] [] p3)) none pos) (liftS C W H0 ρ0 fun _ => M.exc x) := by
  obtain ⟨bmB, B, newId, initId, Fa, h1, h2, h3, h4, h5⟩ := hx
  rw [← hK] at h1 h2 h3 h4 h5
  refine PS.imp (ps_raise hc tk (pmk_own Fa h1 h2 h3 (raises_own h4 h5) hg hdb)) fun E σV H h => ?_
  obtain ⟨σ, ρ, g, F, r, g', hm, hk⟩ := h
  have hm : some ((.ex x : R Flow'), g) = some (r, g') := hm
  cases hm
  have := hk σV ρ H F.stp F.sto
  rw [← hK] at this
  exact this
end
end MC
namespace MC
open PySem PySem.Spec L2
def lcB (sc : Scope) (x : Str) : Bool := match sc.names.lookup x with
  | some .local => true
  | _ => false
theorem lc_of {sc : Scope} {x : Str} (h : lcB sc x = true) : sc.names.lookup x = some .local := by
  unfold lcB at h
  split at h <;> simp_all
/-- a list of this frame, by its name -/
def mlB (Γ : Gam) (i : Nat) (x : Str) : Bool := decide (Γ.N[i]? = some x) && visB Γ.sc x && !(x == ("__debug__" : Str)) && !(x == ("__classdict__" : Str))
def augB : Op2 → Operator → Bool
  | .add, .Add => true
  | .sub, .Sub => true
  | _, _ => false
variable (T : Tab)
/-- what makes a new list -/
def chkN (Γ : Gam) : E → Expr → Bool
  | .lst es, ex => match ex with
    | .List _ _ => chkE T Γ (.lst es) ex
    | _ => false
  | .op o a b, ex => match ex with
    | .BinOp x .Add y _ => decide (o = .add) && chkE T Γ a x && chkE T Γ b y
    | .BinOp x .Mult y _ => decide (o = .mul) && chkE T Γ a x && chkE T Γ b y
    | _ => false
  | .prim p es, ex => match ex with
    | .Call (.Name x _) [y] [] _ => decide (p = .list) && decide (x = "list") && T.bl.contains x && glB Γ.sc x && okE y && chkEs T Γ es [y]
    | _ => false
  | .comp elt tg own it cs, ex => match ex with
    | .ListComp _ _ _ _ => chkE T Γ (.comp elt tg own it cs) ex
    | _ => false
  | _, _ => false
mutual
def chkS (Γ : Gam) : S → Stmt → Bool
  | .asg tg e, st => match st with
    | .Assign [.Name x px] ex _ => chkG Γ tg (.Name x px) && noComp ex && chkE T Γ e ex
    | .Assign [.Tuple es kk px] ex _ => chkG Γ tg (.Tuple es kk px) && noComp ex && noTup ex && chkE T Γ e ex
    | _ => false
  | .par is es, st => match is, st with
    | [i, j], .Assign [.Tuple [.Name x px, .Name y py] _ _] (.Tuple [a, b] _ _) _ => decide (Γ.N[i]? = some x) && decide (Γ.N[j]? = some y) && decide (i ≠ j) && lcB Γ.sc x && lcB Γ.sc y && (py.line == px.line) && !(x == y) && okE a && okE b && !([a, b].all (foldedForSure 8)) && !([a, b].all (constantsAlone 8)) && chkEs T Γ es [a, b]
    | _, _ => false
  | .new i e, st => match st with
    | .Assign [.Name x px] ex _ => chkG Γ (.n i) (.Name x px) && chkN T Γ e ex
    | _ => false
  | .fz _, _ => false
  | .clr _, _ => false
  | .setix i k v, st => match st with
    | .Assign [.Subscript (.Name x _) kx _] vx _ => mlB Γ i x && okE kx && noComp vx && chkE T Γ k kx && chkE T Γ v vx
    | _ => false
  | .augix i o k v, st => match st with
    | .AugAssign (.Subscript (.Name x _) kx _) op vx _ => mlB Γ i x && okE kx && augB o op && chkE T Γ k kx && chkE T Γ v vx
    | _ => false
  | .aug i o e, st => match st with
    | .AugAssign (.Name x px) op ex _ => chkG Γ (.n i) (.Name x px) && augB o op && chkE T Γ e ex
    | _ => false
  | .app i e, st => match st with
    | .Expr (.Call (.Attribute (.Name x _) at_ pa) [ex] [] pc) _ => decide (at_ = "append") && mlB Γ i x && okE ex && (pa.endLine == pc.line) && chkE T Γ e ex
    | _ => false
  | .ext i e, st => match st with
    | .Expr (.Call (.Attribute (.Name x _) at_ pa) [ex] [] pc) _ => decide (at_ = "extend") && mlB Γ i x && okE ex && (pa.endLine == pc.line) && chkE T Γ e ex
    | _ => false
  | .ife c a b, st => match st with
    | .If cx as bs _ => okT cx && chkE T Γ c cx && chkSs Γ a as && chkSs Γ b bs
    | _ => false
  | .forr tg it b _, st => match st with
    | .For tge iter body [] _ => okE iter && chkI T Γ it tge iter && chkG Γ tg tge && chkSs Γ b body
    | _ => false
  | .whil c b, st => match st with
    | .While cx body [] _ => okT cx && chkE T Γ c cx && chkSs Γ b body
    | _ => false
  | .ret e, st => match st with
    | .Return (some ex) _ => chkE T Γ e ex
    | _ => false
  | .exp e, st => match st with
    | .Expr ex _ => noComp ex && chkE T Γ e ex
    | _ => false
  | .raise c, st => match st with
    | .Raise (some (.Call (.Name x _) [.Constant (.str _) _ _] [] _)) none _ => decide (x = c) && T.ex.contains x && glB Γ.sc x && !(x == ("__debug__" : Str))
    | _ => false
  | .brk, st => match st with
    | .Break _ => true
    | _ => false
  | .cnt, st => match st with
    | .Continue _ => true
    | _ => false
def chkSs (Γ : Gam) : List S → List Stmt → Bool
  | [], sts => match sts with
    | [] => true
    | _ => false
  | s :: r, sts => match s with
    | .fz _ => chkSs Γ r sts
    | .clr _ => chkSs Γ r sts
    | s => match sts with
      | st :: l => chkS Γ s st && chkSs Γ r l
      | _ => false
end
end MC
namespace MC
open PySem PySem.Spec L2
section
variable {T : Tab} {C : Cn} {Φ : Nat → List D → M D} {H0 : Hp} {ρ0 : Rho} {Γ : Gam} {X : Cx} {W : WX} {fuel : Nat}
structure GoodS (T : Tab) (C : Cn) (Φ : Nat → List D → M D) (Γ : Gam) (X : Cx) (W : WX) : Prop extends Good T C Φ Γ X W where
  kind : X.env.scope.kind = .function
  own : PassesOwn (model X.prog X.w) X.A X.env X.xe
theorem Good.ml (Gd : Good T C Φ Γ X W) {i : Nat} {x : Str} (h : mlB Γ i x = true) : X.N[i]? = some x ∧ Vis X.env.scope x ∧ (x == ("__debug__" : Str)) = false ∧ (x == ("__classdict__" : Str)) = false := by
  unfold mlB at h
  simp only [Bool.and_eq_true, Bool.not_eq_true'] at h
  obtain ⟨⟨⟨h1, h2⟩, h3⟩, h4⟩ := h
  exact ⟨Gd.at_ h1, by rw [Gd.sc]; exact vis_of h2, h3, h4⟩
theorem Good.nm (Gd : Good T C Φ Γ X W) {i : Nat} {x : Str} {px : Pos} (h : chkG Γ (.n i) (.Name x px) = true) : X.N[i]? = some x ∧ L2.Loc X.env.scope x ∧ (X.fn x = true ∨ X.env.scope.names.lookup x = some .local) := by
  unfold chkG at h
  obtain ⟨h1, h2⟩ := Bool.and_eq_true_iff.mp h
  exact ⟨Gd.at_ h1, Gd.loc h2⟩
theorem aug_of {o : Op2} {op : Operator} (h : augB o op = true) : PIp X op (ipO o) := by
  cases o <;> cases op <;> first | exact ip_add | exact ip_sub | cases h
theorem augS_of {kx : Expr} (h : okE kx = true) : ∀ ov iv new, augStore kx ov iv new = (do holding [new, ov, iv] (setItem ov iv new); release [new, ov, iv] []; pure .next) := by
  cases kx <;> first | (intros; rfl) | cases h
theorem asgSub_of {o i : Expr} {pos : Pos} {env : Env} (h : okE i = true) : ∀ v, assign (.Subscript o i pos) env v = (do
      let ov ← holding [v] (eval o env)
      let iv ← holding [v, ov] (eval i env)
      standAt pos
      holding [v, ov, iv] (setItem ov iv v)
      release [v, ov, iv] []) := by
  cases i <;> first | (intro _; rfl) | cases h
/-- name = a new list -/
theorem sndN (Gd : GoodS T C Φ Γ X W) {i : Nat} {e : E} {x : Str} {px pos : Pos} {ex : Expr} (h1 : chkG Γ (.n i) (.Name x px) = true) (h2 : chkN T Γ e ex = true) : PS X (.Assign [.Name x px] ex pos) (liftS C W H0 ρ0 fun σ => M.bind (ev Φ e σ) (newS σ i)) := by
  obtain ⟨n1, n2, n3⟩ := Gd.nm h1
  unfold chkN at h2
  split at h2
  · split at h2
    · rename_i es xs p
      unfold chkE at h2
      simp only [Bool.and_eq_true, decide_eq_true_eq] at h2
      have q := sndEs (H0 := H0) (ρ0 := ρ0) _ _ Gd.toGood h2.1
      exact liftS_eq (sS_new Gd.nd n1 n2 n3 rfl (sN_lst q fun σ g ds g' z => by rw [evs_len z, chkEs_len h2.1]; exact h2.2)) fun σ => by rw [ev]
    · cases h2
  · split at h2
    · simp only [Bool.and_eq_true, decide_eq_true_eq] at h2
      obtain ⟨⟨rfl, h3⟩, h4⟩ := h2
      exact liftS_eq (sS_new Gd.nd n1 n2 n3 rfl (sN_add (sndE _ _ Gd.toGood h3).1 (sndE _ _ Gd.toGood h4).1)) fun σ => by rw [ev]
    · simp only [Bool.and_eq_true, decide_eq_true_eq] at h2
      obtain ⟨⟨rfl, h3⟩, h4⟩ := h2
      exact liftS_eq (sS_new Gd.nd n1 n2 n3 rfl (sN_mul (sndE _ _ Gd.toGood h3).1 (sndE _ _ Gd.toGood h4).1)) fun σ => by rw [ev]
    · cases h2
  · split at h2
    · simp only [Bool.and_eq_true, decide_eq_true_eq] at h2
      obtain ⟨⟨⟨⟨⟨rfl, rfl⟩, h3⟩, h4⟩, h5⟩, h6⟩ := h2
      exact liftS_eq (sS_new Gd.nd n1 n2 n3 rfl (sN_list Gd.K h5 (Gd.gl h4) (Gd.mdl.bl _ h3) (sndEs _ _ Gd.toGood h6))) fun σ => by rw [ev]
    · cases h2
  · split at h2
    · unfold chkE at h2
      split at h2
      · rename_i elt tg own it cs _ elt0 gs scope p _ x tge iter ifs scope1 p1 heq
        cases heq
        simp only [Bool.and_eq_true, List.all_eq_true] at h2
        obtain ⟨⟨⟨⟨⟨⟨a1, a2⟩, a3⟩, a4⟩, a5⟩, a6⟩, a7⟩ := h2
        have bo : BlkOk X.N X.env.scope scope (ownOf Γ.N own) := by
          rw [Gd.N, Gd.sc]
          exact blkOk_by a1
        have q := sS_newC (py := px) (pos := p) (spos := pos) (i := i) (H0 := H0) (ρ0 := ρ0) Gd.calm Gd.nd Gd.K n1 n2 n3 Gd.kind bo a2 (by rw [ownOf_ix]; exact fun i hi => by simpa using a3 i hi) (sndI it tge iter Gd.toGood a4) (fun s H Cc cl fp => sndG tg tge Gd.toGood.blk a5)
          (fun s H Cc cl fp => sndC cs ifs Gd.toGood.blk a6) (fun s H Cc cl fp => (sndE elt _ Gd.toGood.blk a7).1)
        rw [ownOf_ix] at q
        exact liftS_eq q fun σ => by rw [comp_eq, ev]
      · cases h2
    · cases h2
  · cases h2
mutual
theorem sndS : ∀ (s : S) {Γ : Gam} {X : Cx} {W : WX} (st : Stmt), GoodS T C Φ Γ X W → chkS T Γ s st = true → PS X st (liftS C W H0 ρ0 (ex Φ fuel s))
  | .asg tg e, Γ, X, W, st, Gd, h => by
    unfold chkS at h
    split at h
    · simp only [Bool.and_eq_true] at h
      obtain ⟨⟨h1, h2⟩, h3⟩ := h
      cases tg with
      | n i =>
        obtain ⟨n1, n2, n3⟩ := Gd.nm h1
        exact liftS_eq (sS_asgN Gd.nd n1 n2 n3 h2 (sndE e _ Gd.toGood h3).1) fun σ => by rw [ex]
      | t l => unfold chkG at h1; cases h1
    · simp only [Bool.and_eq_true] at h
      obtain ⟨⟨⟨h1, h2⟩, h3⟩, h4⟩ := h
      exact liftS_eq (sS_asgT (sndG tg _ Gd.toGood h1) h2 h3 (sndE e _ Gd.toGood h4).1) fun σ => by rw [ex]
    · cases h
  | .par is es, Γ, X, W, st, Gd, h => by
    unfold chkS at h
    split at h
    · simp only [Bool.and_eq_true, Bool.not_eq_true', decide_eq_true_eq] at h
      obtain ⟨⟨⟨⟨⟨⟨⟨⟨⟨⟨⟨h1, h2⟩, h3⟩, h4⟩, h5⟩, h6⟩, h7⟩, h8⟩, h9⟩, h10⟩, h11⟩, h12⟩ := h
      have l1 := lc_of h4
      have l2 := lc_of h5
      rw [← Gd.sc] at l1 l2
      rw [← Gd.N] at h1 h2
      exact liftS_eq (PS.imp (ps_par Gd.calm Gd.nd h1 h2 h3 l1 l2 (sndEs es _ Gd.toGood h12) (sw_two Gd.kind l1 l2 h6 h7 h8 h9 h10 h11) rfl) fun E σV H h => par_read h) fun σ => by rw [ex]
    · cases h
  | .new i e, Γ, X, W, st, Gd, h => by
    unfold chkS at h
    split at h
    · simp only [Bool.and_eq_true] at h
      exact liftS_eq (sndN Gd h.1 h.2) fun σ => by rw [ex]
    · cases h
  | .fz i, Γ, X, W, st, Gd, h => by
    unfold chkS at h
    cases h
  | .clr is, Γ, X, W, st, Gd, h => by
    unfold chkS at h
    cases h
  | .setix i k v, Γ, X, W, st, Gd, h => by
    unfold chkS at h
    split at h
    · simp only [Bool.and_eq_true] at h
      obtain ⟨⟨⟨⟨h1, h2⟩, h3⟩, h4⟩, h5⟩ := h
      obtain ⟨n1, n2, n3, n4⟩ := Gd.ml h1
      rename_i x px kx pk vx pos
      exact liftS_eq (PS.imp (ps_asg (sndE v _ Gd.toGood h5).1 (pg_sub (getL_run n1 n2 n3 n4) (sndE k _ Gd.toGood h4).1 set_list (asgSub_of h2)) (by show swapsWith vx (some (.Subscript (.Name x px) kx pk)) pos.line X.env = pure false; exact swaps_of h3 _ _ _) (by cases vx <;> first | rfl | cases h3) rfl) fun E σV H h => setix_read h) fun σ => by rw [ex]
    · cases h
  | .augix i o k v, Γ, X, W, st, Gd, h => by
    unfold chkS at h
    split at h
    · simp only [Bool.and_eq_true] at h
      obtain ⟨⟨⟨⟨h1, h2⟩, h3⟩, h4⟩, h5⟩ := h
      obtain ⟨n1, n2, n3, n4⟩ := Gd.ml h1
      exact liftS_eq (PS.imp (ps_augS (getL_run n1 n2 n3 n4) (sndE k _ Gd.toGood h4).1 get_list (sndE v _ Gd.toGood h5).1 (aug_of h3) set_list (augS_of h2)) fun E σV H h => augix_read h) fun σ => by rw [ex]
    · cases h
  | .aug i o e, Γ, X, W, st, Gd, h => by
    unfold chkS at h
    split at h
    · simp only [Bool.and_eq_true] at h
      obtain ⟨⟨h1, h2⟩, h3⟩ := h
      obtain ⟨n1, n2, n3⟩ := Gd.nm h1
      exact liftS_eq (PS.imp (ps_aug Gd.nd n1 n2 (sndE e _ Gd.toGood h3).1 (aug_of h2) n3) fun E σV H h => aug_read h) fun σ => by rw [ex]
    · cases h
  | .app i e, Γ, X, W, st, Gd, h => by
    unfold chkS at h
    split at h
    · simp only [Bool.and_eq_true, decide_eq_true_eq] at h
      obtain ⟨⟨⟨⟨rfl, h1⟩, h2⟩, h3⟩, h4⟩ := h
      obtain ⟨n1, n2, n3, n4⟩ := Gd.ml h1
      exact liftS_eq (sS_app Gd.K n1 n2 n3 n4 h2 h3 (sndE e _ Gd.toGood h4).1) fun σ => by rw [ex]
    · cases h
  | .ext i e, Γ, X, W, st, Gd, h => by
    unfold chkS at h
    split at h
    · simp only [Bool.and_eq_true, decide_eq_true_eq] at h
      obtain ⟨⟨⟨⟨rfl, h1⟩, h2⟩, h3⟩, h4⟩ := h
      obtain ⟨n1, n2, n3, n4⟩ := Gd.ml h1
      exact liftS_eq (sS_ext Gd.K n1 n2 n3 n4 h2 h3 (sndE e _ Gd.toGood h4).1) fun σ => by rw [ex]
    · cases h
  | .ife c a b, Γ, X, W, st, Gd, h => by
    unfold chkS at h
    split at h
    · simp only [Bool.and_eq_true] at h
      obtain ⟨⟨⟨h1, h2⟩, h3⟩, h4⟩ := h
      exact liftS_eq (sS_ife ((sndE c _ Gd.toGood h2).2 h1) (sndSs a _ Gd h3) (sndSs b _ Gd h4)) fun σ => by rw [ex]; rfl
    · cases h
  | .forr tg it b tmp, Γ, X, W, st, Gd, h => by
    unfold chkS at h
    split at h
    · simp only [Bool.and_eq_true] at h
      obtain ⟨⟨⟨h1, h2⟩, h3⟩, h4⟩ := h
      exact liftS_eq (PS.imp (ps_for Gd.own Gd.calm (sndI it _ _ Gd.toGood h2) (sndG tg _ Gd.toGood h3) (sndSs b _ Gd h4) (folded_of h1 X.env)) fun E σV H h => for_read (tmp := tmp) h) fun σ => by rw [ex]
    · cases h
  | .whil c b, Γ, X, W, st, Gd, h => by
    unfold chkS at h
    split at h
    · simp only [Bool.and_eq_true] at h
      obtain ⟨⟨h1, h2⟩, h3⟩ := h
      exact liftS_eq (PS.imp (ps_while Gd.own ((sndE c _ Gd.toGood h2).2 h1) (sndSs b _ Gd h3)) fun E σV H h => while_read (fuel := fuel) h) fun σ => by rw [ex]; rfl
    · cases h
  | .ret e, Γ, X, W, st, Gd, h => by
    unfold chkS at h
    split at h
    · exact liftS_eq (sS_ret (sndE e _ Gd.toGood h).1) fun σ => by rw [ex]
    · cases h
  | .exp e, Γ, X, W, st, Gd, h => by
    unfold chkS at h
    split at h
    · simp only [Bool.and_eq_true] at h
      exact liftS_eq (sS_exp h.1 (sndE e _ Gd.toGood h.2).1) fun σ => by rw [ex]
    · cases h
  | .raise c, Γ, X, W, st, Gd, h => by
    unfold chkS at h
    split at h
    · simp only [Bool.and_eq_true, decide_eq_true_eq, Bool.not_eq_true'] at h
      obtain ⟨⟨⟨rfl, h2⟩, h3⟩, h4⟩ := h
      exact liftS_eq (sS_raise Gd.calm Gd.K Gd.tk (Gd.gl h3) (Gd.mdl.ex _ h2) h4) fun σ => by rw [ex]
    · cases h
  | .brk, Γ, X, W, st, Gd, h => by
    unfold chkS at h
    split at h
    · exact liftS_eq sS_brk fun σ => by rw [ex]
    · cases h
  | .cnt, Γ, X, W, st, Gd, h => by
    unfold chkS at h
    split at h
    · exact liftS_eq sS_cnt fun σ => by rw [ex]
    · cases h
theorem sndSs : ∀ (b : List S) {Γ : Gam} {X : Cx} {W : WX} (sts : List Stmt), GoodS T C Φ Γ X W → chkSs T Γ b sts = true → PSs X sts (liftS C W H0 ρ0 (exs Φ fuel b))
  | [], Γ, X, W, sts, Gd, h => by
    unfold chkSs at h
    split at h
    · exact liftSs_eq sS_nil fun σ => by rw [exs]
    · cases h
  | s :: r, Γ, X, W, sts, Gd, h => by
    have eq : ∀ σ, seqM (ex Φ fuel s) (exs Φ fuel r) σ = exs Φ fuel (s :: r) σ := fun σ => by rw [exs]; rfl
    unfold chkSs at h
    split at h
    · rename_i i
      refine liftSs_eq (sS_fz (i := i) (sndSs r sts Gd h)) fun σ => ?_
      rw [← eq]
      show seqM _ _ σ = seqM _ _ σ
      rw [show ex Φ fuel (.fz i) = fun σ => fzS σ i from funext fun σ => by rw [ex]]
    · rename_i is
      refine liftSs_eq (sS_clr (is := is) (sndSs r sts Gd h)) fun σ => ?_
      rw [← eq]
      show seqM _ _ σ = seqM _ _ σ
      rw [show ex Φ fuel (.clr is) = fun σ => M.pure (.next (clear is σ)) from funext fun σ => by rw [ex]]
    · split at h
      · rename_i st l
        simp only [Bool.and_eq_true] at h
        exact liftSs_eq (sS_cons (sndS s st Gd h.1) (sndSs r l Gd h.2)) eq
      · cases h
end
end
end MC
namespace MC
open PySem PySem.Spec L2
section
variable {T : Tab} {C : Cn} {P : Program} {w : World} {mg : Str → Option Value} {base : Heap} {Φ : Nat → List D → M D} {n : Nat}
theorem init_get {ds : List D} {k j : Nat} {s : Sl} (h : (ds.map Sl.imm ++ List.replicate k Sl.un)[j]? = some s) : s = .un ∨ ∃ d, s = .imm d ∧ ds[j]? = some d := by
  by_cases hj : j < ds.length
  · rw [List.getElem?_append_left (by simpa using hj), List.getElem?_map] at h
    cases e : ds[j]? with
    | none => rw [e] at h; cases h
    | some d => rw [e] at h; cases h; exact .inr ⟨d, rfl, rfl⟩
  · rw [List.getElem?_append_right (by simpa using hj), List.getElem?_replicate] at h
    split at h <;> cases h
    exact .inl rfl
/-- a def's frame at its entry -/
theorem Fm.start {N : List Str} {ds : List D} {vs : List V} {ρ : Rho} {g : G} {H : Hp} {k : Nat} (so : Sto ρ g H) (r : Reps C ρ H ds vs) (hl : N.length = vs.length + k) : Fm C H ρ (ds.map Sl.imm ++ List.replicate k Sl.un) (L2.start N vs) ρ g H := by
  have hv := r.len
  have no : ∀ (j : Nat) s ov a, (ds.map Sl.imm ++ List.replicate k Sl.un)[j]? = some s → own s ov ≠ some a := fun j s ov a h z => by
    rcases init_get h with rfl | ⟨d, rfl, _⟩
    · rw [own_un] at z; cases z
    · rw [own_imm] at z; cases z
  refine ⟨?_, fun j s ov h1 h2 => ?_, fun i j s t ov ow a h1 h2 h3 => (no i s ov a h1 h3).elim, fun i s ov a h1 h2 h3 => (no i s ov a h1 h3).elim, .refl _ _, List.prefix_refl _, fun b z => .inl z, so⟩
  · unfold L2.start
    rw [List.length_append, List.length_append, List.length_map, List.length_map, List.length_replicate, List.length_replicate]
    omega
  · rcases init_get h1 with rfl | ⟨d, rfl, hd⟩
    · trivial
    · obtain ⟨v, ev, rv⟩ := r.get hd
      unfold L2.start at h2
      have hj := (List.getElem?_eq_some_iff.mp ev).1
      rw [List.getElem?_append_left (by simpa using hj), List.getElem?_map, ev] at h2
      cases h2
      exact ⟨v, rfl, rv⟩
/-- a def keeps its promise -/
theorem def_ok (Md : Mdl T C P w mg base Φ n) {x : Str} {params : Arguments} {bd : List Stmt} {scope : Scope} {dvs : List V} {kws : List (Str × V)} {f : Addr} {fd : FuncData} (Fd : FunD C.K x x params bd scope dvs kws f fd) {N ps : List Str} (Sc : FnScope N ps scope) {b : List S} {k fuel : Nat}
    (hN : N.length = ps.length + k) (hc : chkSs T ⟨N, scope, fun _ => true, n⟩ b bd = true) (hΦ : ∀ as, as.length = ps.length → Φ n as = MC.body Φ fuel b k as) :
    FnOk P w C.K mg base (L2.CX P w) (n + 1) f fd ps (spM C ps.length (Φ n)) := by
  refine FunD.ok Fd Sc (fun vs H Q E h => h.1) fun cdv A outer s H vs Q E hr hsp => ?_
  obtain ⟨hl, ρ, g, ds, so, rv, r, g', hm, hk⟩ := hsp
  have hds : ds.length = ps.length := rv.len.symm.trans hl
  have Gd : GoodS T C Φ ⟨N, scope, fun _ => true, n⟩ (cxOf (L2.CX P w) P w C.K mg base N x scope f cdv A outer s H E) (fun cls d _ H => E cls d H) :=
    { mdl := Md, K := rfl, N := rfl, nd := Sc.nd, sc := rfl, calm := rfl, fn := fun _ _ => rfl, tk := takes_of rfl rfl rfl rfl, rm := hr, kind := Sc.kind, own := passes_of rfl }
  refine ⟨_, sndSs (H0 := H) (ρ0 := ρ) (fuel := fuel) b bd Gd hc, ?_⟩
  rw [hΦ ds hds] at hm
  rcases bind_some hm with ⟨c, h1, rfl⟩ | ⟨fl, g1, h1, h2⟩
  · exact ⟨_, ρ, g, Fm.start so rv (by omega), .ex c, g', h1, fun σV' ρ' H' st so' => hk ρ' H' st so'⟩
  · refine ⟨_, ρ, g, Fm.start so rv (by omega), .ok fl, g1, h1, ?_⟩
    cases fl with
    | ret d =>
      obtain ⟨rfl, rfl⟩ := pure_some h2
      exact hk
    | next σ' =>
      obtain ⟨rfl, rfl⟩ := pure_some h2
      exact fun σV' ρ' H' F' _ _ => hk .non ρ' H' F'.stp F'.sto rfl
    | brk σ' => cases h2
    | cnt σ' => cases h2
end
end MC
namespace MC
open PySem PySem.Spec L2
/-! ### a def by a run of its own -/
theorem def_okB {T : Tab} {C : Cn} {P : Program} {w : World} {mg : Str → Option Value} {base : Heap} {Φ : Nat → List D → M D} {n : Nat} (Md : Mdl T C P w mg base Φ n) {x : Str} {params : Arguments} {bd : List Stmt} {scope : Scope} {dvs : List V} {kws : List (Str × V)} {f : Addr} {fd : FuncData} (Fd : FunD C.K x x params bd scope dvs kws f fd) {N ps : List Str} (Sc : FnScope N ps scope) {k : Nat} {mB : List Sl → M Flow'} {F : List D → M D}
    (hN : N.length = ps.length + k) (hB : ∀ (X : Cx) (W : WX) (H0 : Hp) (ρ0 : Rho), GoodS T C Φ ⟨N, scope, fun _ => true, n⟩ X W → PSs X bd (liftS C W H0 ρ0 mB)) (hΦ : ∀ as, as.length = ps.length → F as = M.bind (mB (as.map Sl.imm ++ List.replicate k .un)) retD) :
    FnOk P w C.K mg base (L2.CX P w) (n + 1) f fd ps (spM C ps.length F) := by
  refine FunD.ok Fd Sc (fun vs H Q E h => h.1) fun cdv A outer s H vs Q E hr hsp => ?_
  obtain ⟨hl, ρ, g, ds, so, rv, r, g', hm, hk⟩ := hsp
  have hds : ds.length = ps.length := rv.len.symm.trans hl
  have Gd : GoodS T C Φ ⟨N, scope, fun _ => true, n⟩ (cxOf (L2.CX P w) P w C.K mg base N x scope f cdv A outer s H E) (fun cls d _ H => E cls d H) :=
    { mdl := Md, K := rfl, N := rfl, nd := Sc.nd, sc := rfl, calm := rfl, fn := fun _ _ => rfl, tk := takes_of rfl rfl rfl rfl, rm := hr, kind := Sc.kind, own := passes_of rfl }
  refine ⟨_, hB _ _ H ρ Gd, ?_⟩
  rw [hΦ ds hds] at hm
  rcases bind_some hm with ⟨c, h1, rfl⟩ | ⟨fl, g1, h1, h2⟩
  · exact ⟨_, ρ, g, Fm.start so rv (by omega), .ex c, g', h1, fun σV' ρ' H' st so' => hk ρ' H' st so'⟩
  · refine ⟨_, ρ, g, Fm.start so rv (by omega), .ok fl, g1, h1, ?_⟩
    cases fl with
    | ret d =>
      obtain ⟨rfl, rfl⟩ := pure_some h2
      exact hk
    | next σ' =>
      obtain ⟨rfl, rfl⟩ := pure_some h2
      exact fun σV' ρ' H' F' _ _ => hk .non ρ' H' F'.stp F'.sto rfl
    | brk σ' => cases h2
    | cnt σ' => cases h2
/-! ### the town -/
theorem sep_of : ∀ {ρ : Rho}, (ρ.flatMap fun p => [p.1, p.2]).Nodup → ∀ {n m : Nat} {p q : Addr × Addr}, ρ[n]? = some p → ρ[m]? = some q → n ≠ m → p.1 ≠ q.1 ∧ p.1 ≠ q.2 ∧ p.2 ≠ q.1 ∧ p.2 ≠ q.2
  | [], _, n, m, p, q, h, _, _ => by simp at h
  | a :: ρ, nd, n, m, p, q, h1, h2, hne => by
    rw [List.flatMap_cons] at nd
    have nd' : (a.1 :: a.2 :: (ρ.flatMap fun p => [p.1, p.2])).Nodup := nd
    have n1 := List.nodup_cons.mp nd'
    have n2 := List.nodup_cons.mp n1.2
    have inr : ∀ {k : Nat} {r : Addr × Addr}, ρ[k]? = some r → r.1 ∈ (ρ.flatMap fun p => [p.1, p.2]) ∧ r.2 ∈ (ρ.flatMap fun p => [p.1, p.2]) := fun {k r} h => by
      have m := List.mem_of_getElem? h
      exact ⟨List.mem_flatMap.mpr ⟨r, m, by simp⟩, List.mem_flatMap.mpr ⟨r, m, by simp⟩⟩
    cases n with
    | zero =>
      cases m with
      | zero => exact absurd rfl hne
      | succ m =>
        have e1 : a = p := by simpa using h1
        subst e1
        obtain ⟨i1, i2⟩ := inr (show ρ[m]? = some q by simpa using h2)
        exact ⟨fun z => n1.1 (z ▸ List.mem_cons_of_mem _ i1), fun z => n1.1 (z ▸ List.mem_cons_of_mem _ i2), fun z => n2.1 (z ▸ i1), fun z => n2.1 (z ▸ i2)⟩
    | succ n =>
      cases m with
      | zero =>
        have e1 : a = q := by simpa using h2
        subst e1
        obtain ⟨i1, i2⟩ := inr (show ρ[n]? = some p by simpa using h1)
        exact ⟨fun z => n1.1 (z ▸ List.mem_cons_of_mem _ i1), fun z => n2.1 (z ▸ i1), fun z => n1.1 (z ▸ List.mem_cons_of_mem _ i2), fun z => n2.1 (z ▸ i2)⟩
      | succ m => exact sep_of n2.2 (show ρ[n]? = some p by simpa using h1) (show ρ[m]? = some q by simpa using h2) (by omega)
theorem sep_self : ∀ {ρ : Rho}, (ρ.flatMap fun p => [p.1, p.2]).Nodup → ∀ {n : Nat} {p : Addr × Addr}, ρ[n]? = some p → p.1 ≠ p.2
  | [], _, n, p, h => by simp at h
  | a :: ρ, nd, n, p, h1 => by
    rw [List.flatMap_cons] at nd
    have nd' : (a.1 :: a.2 :: (ρ.flatMap fun p => [p.1, p.2])).Nodup := nd
    have n1 := List.nodup_cons.mp nd'
    cases n with
    | zero =>
      have e1 : a = p := by simpa using h1
      subst e1
      exact fun z => n1.1 (z ▸ List.mem_cons_self)
    | succ n => exact sep_self (List.nodup_cons.mp n1.2).2 (show ρ[n]? = some p by simpa using h1)
section
variable {C : Cn} {W : WX} {H0 : Hp} {ρ0 : Rho} {X : Cx} {σV : L2.St} {σ : List Sl} {ρ : Rho} {g g' : G} {H : Hp}
theorem Sto.set {n : Nat} {p : Addr × Addr} {o : GO} {b : Addr} {kvs : List (Key × V)} (s : Sto ρ g H) (hn : ρ[n]? = some p) (hb : b = p.1 ∨ b = p.2) (h : StoAt (L2.upd H b (.dK kvs)) o p) : Sto ρ (g.set n o) (L2.upd H b (.dK kvs)) := by
  refine ⟨by rw [List.length_set]; exact s.len, fun m o' q h1 h2 => ?_, s.sep⟩
  by_cases e : n = m
  · subst e
    rw [hn] at h2
    cases h2
    have l : n < g.length := by rw [s.len]; exact (List.getElem?_eq_some_iff.mp hn).1
    rw [List.getElem?_set_self l] at h1
    cases h1
    exact h
  · rw [List.getElem?_set_ne e] at h1
    have old := s.at_ m o' q h1 h2
    obtain ⟨d1, d2, d3, d4⟩ := sep_of s.sep hn h2 e
    have k1 : q.1 ≠ b := by rcases hb with rfl | rfl; exact Ne.symm d1; exact Ne.symm d3
    have k2 : q.2 ≠ b := by rcases hb with rfl | rfl; exact Ne.symm d2; exact Ne.symm d4
    cases o' with
    | town c r => exact ⟨by rw [upd_ne k1]; exact old.1, by rw [upd_ne k2]; exact old.2⟩
theorem Fm.rho (F : Fm C H0 ρ0 σ σV ρ g H) {n : Nat} {p : Addr × Addr} {b : Addr} {kvs kvs' : List (Key × V)} (hn : ρ[n]? = some p) (hb : b = p.1 ∨ b = p.2) (e : H b = some (.dK kvs)) (so : Sto ρ g' (upd H b (.dK kvs'))) :
    Fm C H0 ρ0 σ σV ρ g' (upd H b (.dK kvs')) ∧ Keeps C.K H (upd H b (.dK kvs')) := by
  have inb : inRho ρ b := ⟨p, List.mem_of_getElem? hn, hb⟩
  have kp : Keeps C.K H (upd H b (.dK kvs')) := Keeps.mk' (fun a xs h => by rw [upd_ne (ne_of h e (fun z => by cases z))]; exact h) fun a ob u h => by rw [upd_ne (ne_of h e (fun z => by cases z))]; exact h
  have nb : ∀ c u, H0 c = some u → ¬ inRho ρ0 c → c ≠ b := fun c u h nr z => by
    subst z
    rcases F.nrh _ inb with q | q
    · exact nr q
    · rw [q] at h; cases h
  refine ⟨⟨F.len, fun i s ov h1 h2 => ?_, F.sep, F.new, ⟨fun c u h nr nt => ?_, fun c u h nr t => ?_⟩, F.pre, F.nrh, so⟩, kp⟩
  · refine (F.rep i s ov h1 h2).to kp (List.prefix_refl _) fun a vs ho q => ?_
    rw [upd_ne (fun z => (F.new i s ov a h1 h2 ho).2 (by rw [z]; exact inb))]
    exact q
  · rw [upd_ne (nb c u h nr)]
    exact F.ext.at_ c u h nr nt
  · rw [upd_ne (nb c u h nr)]
    exact F.ext.tbl c u h nr t
/-- what the town in slot i holds -/
def twS (σ : List Sl) (i : Nat) : M (Nat × Int × List (Int × Int)) := fun g => match slot σ i with
  | .imm (.obj n) => match g[n]? with
    | some (.town c r) => some (.ok (n, c, r), g)
    | none => none
  | _ => none
theorem twS_some {i : Nat} {r : R (Nat × Int × List (Int × Int))} (h : twS σ i g = some (r, g')) : ∃ n c rs, slot σ i = .imm (.obj n) ∧ g[n]? = some (.town c rs) ∧ r = .ok (n, c, rs) ∧ g' = g := by
  unfold twS at h
  cases e : slot σ i with
  | imm d =>
    rw [e] at h
    cases d with
    | obj n =>
      dsimp only at h
      cases q : g[n]? with
      | none => rw [q] at h; cases h
      | some o =>
        rw [q] at h
        cases o with
        | town c rs =>
          cases h
          exact ⟨n, c, rs, rfl, q, rfl, rfl⟩
    | _ => cases h
  | _ => rw [e] at h; cases h
/-- where it lies -/
theorem tw_at (F : Fm C H0 ρ0 σ σV ρ g H) {i n : Nat} {c : Int} {rs : List (Int × Int)} (hs : slot σ i = .imm (.obj n)) (hg : g[n]? = some (.town c rs)) : ∃ p, ρ[n]? = some p ∧ σV[i]? = some (some (.ref p.1)) ∧ StoAt H (.town c rs) p := by
  obtain ⟨v, hv, q, hq, rfl⟩ := F.get hs
  exact ⟨q, hq, hv, F.sto.at_ n _ q hg hq⟩
theorem ne_cr : ((.inr "count" : Key)) ≠ .inr "rests" := by decide +kernel
theorem cnt_val {c : Int} {b : Addr} : valV [((.inr "count" : Key), V.int c), (.inr "rests", .ref b)] (.inr "count") = some (.int c) := by
  unfold valV
  rw [List.find?_cons_of_pos (by simp)]
  rfl
theorem rst_val {c : Int} {b : Addr} : valV [((.inr "count" : Key), V.int c), (.inr "rests", .ref b)] (.inr "rests") = some (.ref b) := by
  unfold valV
  rw [List.find?_cons_of_neg (by rw [decide_eq_true_eq]; exact ne_cr), List.find?_cons_of_pos (by simp)]
  rfl
theorem cnt_put {c c' : Int} {b : Addr} : putK [((.inr "count" : Key), V.int c), (.inr "rests", .ref b)] (.inr "count") (.int c') = [(.inr "count", .int c'), (.inr "rests", .ref b)] := by
  unfold putK
  rw [if_pos (by rw [List.any_cons]; simp)]
  rw [List.map_cons, List.map_cons, List.map_nil, if_pos rfl, if_neg (show ¬ (.inr "rests" : Key) = .inr "count" from fun z => ne_cr z.symm)]
def getT (r : List (Int × Int)) (a : Int) : Option Int := (r.find? fun q => decide (q.1 = a)).map (·.2)
def putT (r : List (Int × Int)) (a v : Int) : List (Int × Int) := if (r.any fun q => decide (q.1 = a)) = true then r.map (fun q => if q.1 = a then (q.1, v) else q) else r ++ [(a, v)]
theorem getT_val (r : List (Int × Int)) (a : Int) : valV (r.map fun q => ((.inl q.1 : Key), V.int q.2)) (.inl a) = (getT r a).map V.int := by
  induction r with
  | nil => rfl
  | cons q r ih =>
    unfold valV getT at ih ⊢
    rw [List.map_cons]
    by_cases e : q.1 = a
    · rw [List.find?_cons_of_pos (by simp [e]), List.find?_cons_of_pos (by simp [e])]
      rfl
    · rw [List.find?_cons_of_neg (by simp [e]), List.find?_cons_of_neg (by simp [e])]
      exact ih
theorem putT_put (r : List (Int × Int)) (a v : Int) : putK (r.map fun q => ((.inl q.1 : Key), V.int q.2)) (.inl a) (.int v) = (putT r a v).map fun q => ((.inl q.1 : Key), V.int q.2) := by
  unfold putK putT
  have e : ((r.map fun q => ((.inl q.1 : Key), V.int q.2)).any fun kv => decide (kv.1 = .inl a)) = (r.any fun q => decide (q.1 = a)) := by
    rw [List.any_map]
    congr 1
    funext q
    simp
  rw [e]
  split
  · rw [List.map_map, List.map_map]
    refine List.map_congr_left fun q _ => ?_
    show (if (.inl q.1 : Key) = .inl a then _ else _) = _
    by_cases z : q.1 = a
    · simp [z]
    · simp [z]
  · simp
end
end MC
namespace MC
open PySem PySem.Spec L2
section
variable {C : Cn} {W : WX} {H0 : Hp} {ρ0 : Rho} {X : Cx} {σV : L2.St} {σ : List Sl} {ρ : Rho} {g g' : G} {H : Hp}
/-- town['count'] -/
def tcM (i : Nat) : List Sl → M D := fun σ => M.bind (twS σ i) fun t => M.pure (.int t.2.1)
/-- town['rests'].get(k, d) -/
def tgM (i : Nat) (mk md : List Sl → M D) : List Sl → M D := fun σ => M.bind (twS σ i) fun _ => M.bind (mk σ) fun k => M.bind (md σ) fun d => M.bind (twS σ i) fun t => match k with
  | .int a => M.pure (match getT t.2.2 a with
    | some v => .int v
    | none => d)
  | _ => M.fail
/-- the town in slot i becomes c, r -/
def twP (n : Nat) (c : Int) (r : List (Int × Int)) : M Unit := fun g => some (.ok (), g.set n (.town c r))
/-- town['count'] = e -/
def tcS (i : Nat) (m : List Sl → M D) : List Sl → M Flow' := fun σ => M.bind (m σ) fun d => M.bind (twS σ i) fun t => match d with
  | .int c => M.bind (twP t.1 c t.2.2) fun _ => M.pure (.next σ)
  | _ => M.fail
/-- town['rests'][k] = e -/
def trS (i : Nat) (mk m : List Sl → M D) : List Sl → M Flow' := fun σ => M.bind (m σ) fun d => M.bind (twS σ i) fun _ => M.bind (mk σ) fun k => M.bind (twS σ i) fun t => match k, d with
  | .int a, .int v => if t.2.2.length < sizeLine then M.bind (twP t.1 t.2.1 (putT t.2.2 a v)) fun _ => M.pure (.next σ) else M.fail
  | _, _ => M.fail
section
variable {i : Nat} {x : Str} {px p1 p2 p3 p4 pos : Pos} {j : Nat}
theorem noSl_of {e : Expr} (h : okE e = true) : NoSl e := fun o i => by
  cases e <;> first | rfl | cases h
theorem twS_not {r : R (Nat × Int × List (Int × Int))} (h : twS σ i g = some (r, g')) {c : Str} (e : r = .ex c) : False := by
  obtain ⟨_, _, _, _, _, z, _⟩ := twS_some h
  rw [e] at z
  cases z
theorem pe_rests (hu : X.A.units + 1 < cLine) (hN : X.N[i]? = some x) (hv : Vis X.env.scope x) (hd : (x == ("__debug__" : Str)) = false) (hcd : (x == ("__classdict__" : Str)) = false) :
    PE X (.Subscript (.Name x px) (.Constant (.str "rests") j p1) pos) (tDGet (fun σV H Q => ∃ v, σV[i]? = some (some v) ∧ Q v H) (tC (.str "rests"))) := pe_dget hu (getL_run hN hv hd hcd) pe_str (noSl_of rfl)
theorem sE_tc (hu : X.A.units + 1 < cLine) (hN : X.N[i]? = some x) (hv : Vis X.env.scope x) (hd : (x == ("__debug__" : Str)) = false) (hcd : (x == ("__classdict__" : Str)) = false) :
    PE X (.Subscript (.Name x px) (.Constant (.str "count") j p1) pos) (lift C W H0 ρ0 (tcM i)) := by
  refine PE.imp (pe_dget hu (getL_run hN hv hd hcd) pe_str (noSl_of rfl)) fun σV H Q h => ?_
  obtain ⟨σ, ρ, g, F, r, g', hm, hk⟩ := h
  rcases bind_some hm with ⟨c, h1, rfl⟩ | ⟨t, g1, h1, h2⟩
  · exact (twS_not h1 rfl).elim
  obtain ⟨n, c, rs, hs, hg, et, rfl⟩ := twS_some h1
  cases et
  obtain ⟨rfl, rfl⟩ := pure_some h2
  obtain ⟨p, hp, hv', ha⟩ := tw_at F hs hg
  refine ⟨.ref p.1, hv', ?_⟩
  have := DGet.k (k := .inr "count") ha.1
  rw [cnt_val] at this
  exact ⟨p.1, .int c, rfl, this, hk ρ H F (.refl _ _) _ rfl⟩
theorem sE_tg {e f : Expr} {mk md : List Sl → M D} {pa pc : Pos} (hu : X.A.units + 1 < cLine) (hN : X.N[i]? = some x) (hv : Vis X.env.scope x) (hd : (x == ("__debug__" : Str)) = false) (hcd : (x == ("__classdict__" : Str)) = false) (oe : okE e = true) (of_ : okE f = true) (hl : (pa.endLine == pc.line) = true)
    (he : PE X e (lift C W H0 ρ0 mk)) (hf : PE X f (lift C W H0 ρ0 md)) : PE X (.Call (.Attribute (.Subscript (.Name x px) (.Constant (.str "rests") j p1) pos) "get" pa) [e, f] [] pc) (lift C W H0 ρ0 (tgM i mk md)) := by
  refine PE.imp (pe_dget2 hu (pe_rests hu hN hv hd hcd) he hf ⟨rfl, by rw [star_of oe, star_of of_]; rfl, hl, by rw [star_of oe, star_of of_]; rfl⟩) fun σV H Q h => ?_
  obtain ⟨σ, ρ, g, F, r, g', hm, hk⟩ := h
  rcases bind_some hm with ⟨c, h1, rfl⟩ | ⟨t, g1, h1, h2⟩
  · exact (twS_not h1 rfl).elim
  obtain ⟨n, c, rs, hs, hg, et, rfl⟩ := twS_some h1
  cases et
  obtain ⟨p, hp, hv', ha⟩ := tw_at F hs hg
  refine ⟨.ref p.1, hv', ?_⟩
  have d1 := DGet.k (k := .inr "rests") ha.1
  rw [rst_val] at d1
  refine ⟨p.1, .ref p.2, rfl, d1, p.2, rfl, .inl ⟨_, .inl ha.2⟩, ?_⟩
  rcases bind_some h2 with ⟨c, h3, rfl⟩ | ⟨k, g2, h3, h4⟩
  · exact ⟨σ, ρ, g1, F, .ex c, g', h3, hk⟩
  refine ⟨σ, ρ, g1, F, .ok k, g2, h3, fun ρ1 H1 F1 s1 kv rk => ?_⟩
  rcases bind_some h4 with ⟨c, h5, rfl⟩ | ⟨d, g3, h5, h6⟩
  · exact ⟨σ, ρ1, g2, F1, .ex c, g', h5, hk⟩
  refine ⟨σ, ρ1, g2, F1, .ok d, g3, h5, fun ρ2 H2 F2 s2 dv rd => ?_⟩
  rcases bind_some h6 with ⟨c, h7, rfl⟩ | ⟨t, g4, h7, h8⟩
  · exact (twS_not h7 rfl).elim
  obtain ⟨n', c', rs', hs', hg', et, rfl⟩ := twS_some h7
  cases et
  rw [hs] at hs'
  cases hs'
  have hp2 : ρ2[n]? = some p := get_pre s2.pre (get_pre s1.pre hp)
  have ha2 := F2.sto.at_ n _ p hg' hp2
  cases k with
  | int a =>
    obtain ⟨rfl, rfl⟩ := pure_some h8
    have d2 := DGet.k (k := .inl a) ha2.2
    rw [getT_val] at d2
    have rk2 : kv = .int a := rk
    subst rk2
    refine ⟨_, d2, ?_⟩
    cases q : getT rs' a with
    | some v => exact hk ρ2 H2 F2 (s1.trans s2) _ (by rw [q]; rfl)
    | none => exact hk ρ2 H2 F2 (s1.trans s2) _ (by rw [q]; exact rd)
  | _ => cases h8
theorem sS_tc {e : Expr} {m : List Sl → M D} (hu : X.A.units + 1 < cLine) (hN : X.N[i]? = some x) (hv : Vis X.env.scope x) (hd : (x == ("__debug__" : Str)) = false) (hcd : (x == ("__classdict__" : Str)) = false) (nc : noComp e = true) (h : PE X e (lift C W H0 ρ0 m)) :
    PS X (.Assign [.Subscript (.Name x px) (.Constant (.str "count") j p1) p2] e pos) (liftS C W H0 ρ0 (tcS i m)) := by
  refine PS.imp (ps_asg h (pg_sub (getL_run hN hv hd hcd) pe_str (set_dict hu) (asgSub_of rfl)) (by show swapsWith e (some (.Subscript (.Name x px) (.Constant (.str "count") j p1) p2)) pos.line X.env = pure false; exact swaps_of nc _ _ _) (by cases e <;> first | rfl | cases nc) rfl) fun E σV H h => ?_
  obtain ⟨σ, ρ, g, F, r, g', hm, hk⟩ := h
  rcases bind_some hm with ⟨c, h1, rfl⟩ | ⟨d, g1, h1, h2⟩
  · exact ⟨σ, ρ, g, F, .ex c, g', h1, exc_of (E := True) hk⟩
  refine ⟨σ, ρ, g, F, .ok d, g1, h1, fun ρ1 H1 F1 s1 v rv => ?_⟩
  rcases bind_some h2 with ⟨c, h3, rfl⟩ | ⟨t, g2, h3, h4⟩
  · exact (twS_not h3 rfl).elim
  obtain ⟨n, c, rs, hs, hg, et, rfl⟩ := twS_some h3
  cases et
  obtain ⟨p, hp, hv', ha⟩ := tw_at F1 hs hg
  refine ⟨.ref p.1, hv', ?_⟩
  cases d with
  | int c' =>
    have h4 : some ((.ok (.next σ) : R Flow'), g2.set n (.town c' rs)) = some (r, g') := h4
    cases h4
    cases (show v = .int c' from rv)
    have so : Sto ρ1 (g2.set n (.town c' rs)) (upd H1 p.1 (.dK (putK [((.inr "count" : Key), V.int c), (.inr "rests", .ref p.2)] (.inr "count") (.int c')))) := by
      refine F1.sto.set hp (.inl rfl) ⟨?_, ?_⟩
      · rw [upd_same, cnt_put]
      · rw [upd_ne (Ne.symm (sep_self F1.sto.sep hp))]
        exact ha.2
    obtain ⟨F2, kp⟩ := F1.rho hp (.inl rfl) ha.1 so
    exact ⟨p.1, _, rfl, DPut.k (k := .inr "count") ha.1 (by rw [sizeLine_eq]; show 2 < 16777216; omega), hk σV ρ1 _ F2 ((s1.keeps F.rok).trans kp) s1.pre⟩
  | _ => cases h4
theorem sS_tr {e ke : Expr} {m mk : List Sl → M D} (hu : X.A.units + 1 < cLine) (hN : X.N[i]? = some x) (hv : Vis X.env.scope x) (hd : (x == ("__debug__" : Str)) = false) (hcd : (x == ("__classdict__" : Str)) = false) (nc : noComp e = true) (ok : okE ke = true) (h : PE X e (lift C W H0 ρ0 m)) (hk' : PE X ke (lift C W H0 ρ0 mk)) :
    PS X (.Assign [.Subscript (.Subscript (.Name x px) (.Constant (.str "rests") j p1) p2) ke p3] e pos) (liftS C W H0 ρ0 (trS i mk m)) := by
  refine PS.imp (ps_asg h (pg_sub (pe_rests hu hN hv hd hcd) hk' (set_dict hu) (asgSub_of ok)) (by show swapsWith e (some (.Subscript (.Subscript (.Name x px) (.Constant (.str "rests") j p1) p2) ke p3)) pos.line X.env = pure false; exact swaps_of nc _ _ _) (by cases e <;> first | rfl | cases nc) rfl) fun E σV H h => ?_
  obtain ⟨σ, ρ, g, F, r, g', hm, hk⟩ := h
  rcases bind_some hm with ⟨c, h1, rfl⟩ | ⟨d, g1, h1, h2⟩
  · exact ⟨σ, ρ, g, F, .ex c, g', h1, exc_of (E := True) hk⟩
  refine ⟨σ, ρ, g, F, .ok d, g1, h1, fun ρ1 H1 F1 s1 v rv => ?_⟩
  rcases bind_some h2 with ⟨c, h3, rfl⟩ | ⟨t, g2, h3, h4⟩
  · exact (twS_not h3 rfl).elim
  obtain ⟨n, c, rs, hs, hg, et, rfl⟩ := twS_some h3
  cases et
  obtain ⟨p, hp, hv', ha⟩ := tw_at F1 hs hg
  refine ⟨.ref p.1, hv', ?_⟩
  have d1 := DGet.k (k := .inr "rests") ha.1
  rw [rst_val] at d1
  refine ⟨p.1, .ref p.2, rfl, d1, ?_⟩
  rcases bind_some h4 with ⟨c, h5, rfl⟩ | ⟨k, g3, h5, h6⟩
  · exact ⟨σ, ρ1, g2, F1, .ex c, g', h5, exc_of (E := True) hk⟩
  refine ⟨σ, ρ1, g2, F1, .ok k, g3, h5, fun ρ2 H2 F2 s2 kv rk => ?_⟩
  rcases bind_some h6 with ⟨c, h7, rfl⟩ | ⟨t, g4, h7, h8⟩
  · exact (twS_not h7 rfl).elim
  obtain ⟨n', c', rs', hs', hg', et, rfl⟩ := twS_some h7
  cases et
  rw [hs] at hs'
  cases hs'
  have hp2 : ρ2[n]? = some p := get_pre s2.pre hp
  have ha2 := F2.sto.at_ n _ p hg' hp2
  match k, d, h8 with
  | .int a, .int v', h8 =>
    have h8 : (if rs'.length < sizeLine then M.bind (twP n c' (putT rs' a v')) (fun _ => M.pure (Flow'.next σ)) else M.fail) g4 = some (r, g') := h8
    split at h8
    · rename_i hz
      have h8 : some ((.ok (.next σ) : R Flow'), g4.set n (.town c' (putT rs' a v'))) = some (r, g') := h8
      cases h8
      cases (show kv = .int a from rk)
      cases (show v = .int v' from rv)
      have so : Sto ρ2 (g4.set n (.town c' (putT rs' a v'))) (upd H2 p.2 (.dK (putK (rs'.map fun q => ((.inl q.1 : Key), V.int q.2)) (.inl a) (.int v')))) := by
        refine F2.sto.set hp2 (.inr rfl) ⟨?_, ?_⟩
        · rw [upd_ne (sep_self F2.sto.sep hp2)]
          exact ha2.1
        · rw [upd_same, putT_put]
      obtain ⟨F3, kp⟩ := F2.rho hp2 (.inr rfl) ha2.2 so
      exact ⟨p.2, _, rfl, DPut.k (k := .inl a) ha2.2 (by rw [List.length_map]; exact hz), hk σV ρ2 _ F3 (((s1.keeps F.rok).trans (s2.keeps F1.rok)).trans kp) (s1.pre.trans s2.pre)⟩
    · cases h8
  | .int _, .non, h8 => cases h8
  | .int _, .bl _, h8 => cases h8
  | .int _, .str _, h8 => cases h8
  | .int _, .tup _, h8 => cases h8
  | .int _, .lst _, h8 => cases h8
  | .int _, .dct _ _, h8 => cases h8
  | .int _, .ins _ _ _, h8 => cases h8
  | .int _, .fn _, h8 => cases h8
  | .int _, .obj _, h8 => cases h8
  | .int _, .scr _, h8 => cases h8
  | .non, _, h8 => cases h8
  | .bl _, _, h8 => cases h8
  | .str _, _, h8 => cases h8
  | .tup _, _, h8 => cases h8
  | .lst _, _, h8 => cases h8
  | .dct _ _, _, h8 => cases h8
  | .ins _ _ _, _, h8 => cases h8
  | .fn _, _, h8 => cases h8
  | .obj _, _, h8 => cases h8
  | .scr _, _, h8 => cases h8
/-! ### _law_begun -/
def begunF : List D → M D := fun _ g => some (.ok (.obj g.length), g ++ [.town 0 []])
end
end
end MC
namespace MC
open PySem PySem.Spec L2
section
variable {C : Cn} {W : WX} {H0 : Hp} {ρ0 : Rho} {X : Cx} {σV : L2.St} {σ : List Sl} {ρ : Rho} {g g' : G} {H : Hp}
/-! ### _law_begun -/
theorem merge_two {q : Addr} : mergeK [] [((.inr "count" : Key), V.int 0), (.inr "rests", .ref q)] = [(.inr "count", .int 0), (.inr "rests", .ref q)] := by
  show putK (putK ([] : List (Key × V)) (.inr "count") (.int 0)) (.inr "rests") (.ref q) = _
  have e : putK ([] : List (Key × V)) (.inr "count") (.int 0) = [(.inr "count", .int 0)] := rfl
  rw [e]
  unfold putK
  rw [if_neg (by rw [List.any_cons, List.any_nil, Bool.or_false, decide_eq_true_eq]; exact ne_cr)]
  rfl
theorem sE_begun {i j k : Nat} {p1 p2 p3 p4 pos : Pos} : PE X (.Dict [some (.Constant (.str "count") i p1), some (.Constant (.str "rests") j p2)] [.Constant (.int 0) k p3, .Dict [] [] p4] pos) (lift C W H0 ρ0 fun _ => begunF []) := by
  refine PE.imp (pe_disp (pps_cons pe_str pe_int (pps_cons pe_str pe_dnewK pps_nil)) rfl rfl (by simp) (by show 2 ≤ 15; omega)) fun σV H Q h => ?_
  obtain ⟨σ, ρ, g, F, r, g', hm, hk⟩ := h
  have hm : some ((.ok (.obj g.length) : R D), g ++ [.town 0 []]) = some (r, g') := hm
  cases hm
  intro p hp q hq
  have hqp : q ≠ p := fun z => by
    rw [z, upd_same] at hq
    cases hq
  have hq0 : H q = none := by rwa [upd_ne hqp] at hq
  refine ⟨by rw [upd_ne (Ne.symm hqp), upd_same], [((.inr "count" : Key), V.int 0), (.inr "rests", .ref q)], rfl, by show 2 ≤ 15; omega, ?_⟩
  rw [merge_two]
  have same : ∀ b u, H b = some u → (upd (upd (upd H p (.dK [])) q (.dK [])) p (.dK [((.inr "count" : Key), V.int 0), (.inr "rests", .ref q)])) b = some u := fun b u e => by
    rw [upd_ne (ne_of_none e hp), upd_ne (ne_of_none e hq0), upd_ne (ne_of_none e hp)]
    exact e
  have gr : Grow H (upd (upd (upd H p (.dK [])) q (.dK [])) p (.dK [((.inr "count" : Key), V.int 0), (.inr "rests", .ref q)])) := same
  have nin : ∀ b, H b = none → b ∉ ρ.flatMap fun p => [p.1, p.2] := fun b hb z => by
    obtain ⟨r, hr, hz⟩ := List.mem_flatMap.mp z
    have : inRho ρ b := ⟨r, hr, by simpa using hz⟩
    obtain ⟨kvs, e⟩ := F.rok b this
    rw [hb] at e
    cases e
  have so : Sto (ρ ++ [(p, q)]) (g ++ [.town 0 []]) (upd (upd (upd H p (.dK [])) q (.dK [])) p (.dK [((.inr "count" : Key), V.int 0), (.inr "rests", .ref q)])) := by
    refine ⟨by rw [List.length_append, List.length_append, F.sto.len]; rfl, fun n o r h1 h2 => ?_, ?_⟩
    · by_cases hn : n < g.length
      · rw [List.getElem?_append_left hn] at h1
        rw [List.getElem?_append_left (by rw [← F.sto.len]; exact hn)] at h2
        exact (F.sto.grow gr).at_ n o r h1 h2
      · rw [List.getElem?_append_right (by omega)] at h1
        rw [List.getElem?_append_right (by rw [← F.sto.len]; omega)] at h2
        rw [F.sto.len] at h1
        have hz : n - ρ.length = 0 := by
          have := (List.getElem?_eq_some_iff.mp h1).1
          simp at this
          omega
        rw [hz] at h1 h2
        cases h1
        cases h2
        exact ⟨upd_same, by rw [upd_ne hqp, upd_same]; rfl⟩
    · rw [List.flatMap_append, List.nodup_append]
      refine ⟨F.sto.sep, ?_, fun a ha b hb => ?_⟩
      · show [p, q].Nodup
        simp [Ne.symm hqp]
      · have hb : b = p ∨ b = q := by simpa using hb
        rcases hb with rfl | rfl
        · exact fun z => nin _ hp (z ▸ ha)
        · exact fun z => nin _ hq0 (z ▸ ha)
  have st : Stp ρ H (ρ ++ [(p, q)]) (upd (upd (upd H p (.dK [])) q (.dK [])) p (.dK [((.inr "count" : Key), V.int 0), (.inr "rests", .ref q)])) := by
    refine ⟨.of _ gr, List.prefix_append _ _, fun b z => ?_⟩
    obtain ⟨r, hr, hz⟩ := z
    rcases List.mem_append.mp hr with h | h
    · exact .inl ⟨r, h, hz⟩
    · have : r = (p, q) := by simpa using h
      subst this
      rcases hz with rfl | rfl
      · exact .inr hp
      · exact .inr hq0
  refine hk _ _ (F.step st so) st _ ⟨(p, q), ?_, rfl⟩
  rw [F.sto.len, List.getElem?_append_right (Nat.le_refl _), Nat.sub_self]
  rfl
/-! ### _law_draw -/
def opM (o : Op2) (a b : List Sl → M D) : List Sl → M D := fun σ => M.bind (a σ) fun x => M.bind (b σ) fun y => M.opt (opD o x y)
def cM (d : D) : List Sl → M D := fun _ => M.pure d
def vM (i : Nat) : List Sl → M D := fun σ => slotD σ i
def asgM (i : Nat) (m : List Sl → M D) : List Sl → M Flow' := fun σ => M.bind (m σ) fun d => M.bind (M.opt (put (.n i) d σ)) fun σ' => M.pure (.next σ')
def retM (m : List Sl → M D) : List Sl → M Flow' := fun σ => M.bind (m σ) fun d => M.pure (.ret d)
def nilM : List Sl → M Flow' := fun σ => M.pure (.next σ)
def lenM (m : List Sl → M D) : List Sl → M D := fun σ => M.bind (M.bind (m σ) fun d => M.bind (M.pure []) fun ds => M.pure (d :: ds)) fun ds => M.opt (prD .len ds)
def ixM (a b : List Sl → M D) : List Sl → M D := fun σ => M.bind (a σ) fun x => M.bind (b σ) fun y => M.opt (ixOf x y)
def drawB : List Sl → M Flow' :=
  seqM (tcS 1 (opM .add (tcM 1) (cM (.int 1))))
  (seqM (asgM 3 (ifeM (vM 0) (opM .mod (tcM 1) (lenM (vM 0))) (cM (.int 0))))
  (seqM (asgM 4 (tgM 1 (vM 3) (ifeM (vM 0) (ixM (vM 0) (vM 3)) (cM (.int 0)))))
  (seqM (ifS (opM .ge (vM 4) (opM .pow (cM (.int 10)) (cM (.int 18)))) (seqM (trS 1 (vM 3) (opM .fdiv (vM 4) (vM 2))) (seqM (retM (opM .mod (vM 4) (vM 2))) nilM)) nilM)
  (seqM (asgM 5 (opM .mod (opM .add (vM 4) (opM .mul (cM (.int 104729)) (tcM 1))) (cM (.int 4294967291))))
  (seqM (asgM 5 (opM .mod (opM .pow (vM 5) (cM (.int 5))) (cM (.int 4294967279))))
  (seqM (retM (opM .mod (opM .fdiv (opM .mod (opM .add (opM .mul (opM .fdiv (vM 5) (cM (.int 64))) (cM (.int 69621))) (vM 5)) (cM (.int 4294967231))) (cM (.int 8))) (vM 2))) nilM))))))
def drawF (as : List D) : M D := M.bind (drawB (as.map Sl.imm ++ List.replicate 3 .un)) retD
def drawN : List Str := ["script", "town", "many", "at", "rest", "number"]
section
variable {T : Tab} {Φ : Nat → List D → M D} {Γ : Gam}
theorem sE_i {k : Int} {j : Nat} {p : Pos} : PE X (.Constant (.int k) j p) (lift C W H0 ρ0 (cM (.int k))) := sE_cst pe_int fun _ _ => rfl
/-- what a def's name asks -/
structure Nm (X : Cx) (i : Nat) (x : Str) : Prop where
  at_ : X.N[i]? = some x
  loc : X.env.scope.names.lookup x = some .local
  d1 : (x == ("__debug__" : Str)) = false
  d2 : (x == ("__classdict__" : Str)) = false
theorem Nm.v {i : Nat} {x : Str} {p : Pos} (n : Nm X i x) : PE X (.Name x p) (lift C W H0 ρ0 (vM i)) := sE_var n.at_ (.inl n.loc) n.d1 n.d2
theorem Nm.asg {i : Nat} {x : Str} {p pos : Pos} {e : Expr} {m : List Sl → M D} (n : Nm X i x) (nd : X.N.Nodup) (nc : noComp e = true) (h : PE X e (lift C W H0 ρ0 m)) : PS X (.Assign [.Name x p] e pos) (liftS C W H0 ρ0 (asgM i m)) := sS_asgN nd n.at_ (.inl n.loc) (.inr n.loc) nc h
theorem draw_run (Gd : GoodS T C Φ Γ X W) (hN : Γ.N = drawN) (h0 : Γ.sc.names.lookup ("script" : Str) = some .local) (h1 : Γ.sc.names.lookup ("town" : Str) = some .local) (h2 : Γ.sc.names.lookup ("many" : Str) = some .local) (h3 : Γ.sc.names.lookup ("at" : Str) = some .local) (h4 : Γ.sc.names.lookup ("rest" : Str) = some .local) (h5 : Γ.sc.names.lookup ("number" : Str) = some .local) (hg : glB Γ.sc "len" = true) (hb : T.bl.contains "len" = true)
    {p1 p2 p3 p4 p5 p6 p7 p8 p9 p10 p11 p12 p13 p14 p15 p16 p17 p18 p19 p20 p21 p22 p23 p24 p25 p26 p27 p28 p29 p30 p31 p32 p33 p34 p35 p36 p37 p38 p39 p40 p41 p42 p43 p44 p45 p46 p47 p48 p49 p50 p51 p52 p53 p54 p55 p56 p57 p58 p59 p60 p61 p62 p63 p64 p65 p66 p67 p68 p69 p70 p71 p72 p73 p74 p75 p76 p77 p78 p79 p80 p81 p82 p83 p84 p85 p86 : Pos} (hl : (p22.endLine == p29.line) = true) :
    PSs X [.Assign [.Subscript (.Name "town" p1) (.Constant (.str "count") 0 p2) p3] (.BinOp (.Subscript (.Name "town" p4) (.Constant (.str "count") 0 p5) p6) .Add (.Constant (.int 1) 0 p7) p8) p9,
      .Assign [.Name "at" p10] (.IfExp (.Name "script" p11) (.BinOp (.Subscript (.Name "town" p12) (.Constant (.str "count") 0 p13) p14) .Mod (.Call (.Name "len" p15) [.Name "script" p16] [] p17) p18) (.Constant (.int 0) 0 p19) p20) p21,
      .Assign [.Name "rest" p23] (.Call (.Attribute (.Subscript (.Name "town" p24) (.Constant (.str "rests") 0 p25) p26) "get" p22) [.Name "at" p27, .IfExp (.Name "script" p28) (.Subscript (.Name "script" p30) (.Name "at" p31) p32) (.Constant (.int 0) 0 p33) p34] [] p29) p35,
      .If (.Compare (.Name "rest" p36) [.GtE] [.BinOp (.Constant (.int 10) 0 p37) .Pow (.Constant (.int 18) 0 p38) p39] p40)
        [.Assign [.Subscript (.Subscript (.Name "town" p41) (.Constant (.str "rests") 0 p42) p43) (.Name "at" p44) p45] (.BinOp (.Name "rest" p46) .FloorDiv (.Name "many" p47) p48) p49, .Return (some (.BinOp (.Name "rest" p50) .Mod (.Name "many" p51) p52)) p53] [] p54,
      .Assign [.Name "number" p55] (.BinOp (.BinOp (.Name "rest" p56) .Add (.BinOp (.Constant (.int 104729) 0 p57) .Mult (.Subscript (.Name "town" p58) (.Constant (.str "count") 0 p59) p60) p61) p62) .Mod (.Constant (.int 4294967291) 0 p63) p64) p65,
      .Assign [.Name "number" p66] (.BinOp (.BinOp (.Name "number" p67) .Pow (.Constant (.int 5) 0 p68) p69) .Mod (.Constant (.int 4294967279) 0 p70) p71) p72,
      .Return (some (.BinOp (.BinOp (.BinOp (.BinOp (.BinOp (.BinOp (.Name "number" p73) .FloorDiv (.Constant (.int 64) 0 p74) p75) .Mult (.Constant (.int 69621) 0 p76) p77) .Add (.Name "number" p78) p79) .Mod (.Constant (.int 4294967231) 0 p80) p81) .FloorDiv (.Constant (.int 8) 0 p82) p83) .Mod (.Name "many" p84) p85)) p86]
      (liftS C W H0 ρ0 drawB) := by
  have hu : X.A.units + 1 < cLine := by have := Gd.rm.un; omega
  rw [← Gd.sc] at h0 h1 h2 h3 h4 h5
  have hX : X.N = drawN := Gd.N.trans hN
  have n0 : Nm X 0 "script" := ⟨by rw [hX]; rfl, h0, by decide, by decide⟩
  have n1 : Nm X 1 "town" := ⟨by rw [hX]; rfl, h1, by decide, by decide⟩
  have n2 : Nm X 2 "many" := ⟨by rw [hX]; rfl, h2, by decide, by decide⟩
  have n3 : Nm X 3 "at" := ⟨by rw [hX]; rfl, h3, by decide, by decide⟩
  have n4 : Nm X 4 "rest" := ⟨by rw [hX]; rfl, h4, by decide, by decide⟩
  have n5 : Nm X 5 "number" := ⟨by rw [hX]; rfl, h5, by decide, by decide⟩
  have tc : ∀ {q1 q2 q3 : Pos}, PE X (.Subscript (.Name "town" q1) (.Constant (.str "count") 0 q2) q3) (lift C W H0 ρ0 (tcM 1)) := fun {q1 q2 q3} => sE_tc hu n1.at_ (.inl n1.loc) n1.d1 n1.d2
  have G := Gd.toGood
  refine sS_cons (sS_tc hu n1.at_ (.inl n1.loc) n1.d1 n1.d2 rfl (sE_bin (G.bop (o := .add) rfl) tc sE_i)) ?_
  refine sS_cons (n3.asg Gd.nd rfl (sE_ife (sT_any Gd.K rfl n0.v) (sE_bin (G.bop (o := .mod) rfl) tc (sE_pr (q := .len) G rfl hb hg (sA_cons rfl n0.v sA_nil))) sE_i)) ?_
  refine sS_cons (n4.asg Gd.nd rfl (sE_tg hu n1.at_ (.inl n1.loc) n1.d1 n1.d2 rfl rfl hl n3.v (sE_ife (sT_any Gd.K rfl n0.v) (sE_idx Gd.K rfl n0.v n3.v) sE_i))) ?_
  refine sS_cons (sS_ife (sT_cmp rfl (cmp_bl (op := .GtE) rfl) (G.cop (o := .ge) rfl) n4.v (sE_bin (G.bop (o := .pow) rfl) sE_i sE_i)) (sS_cons (sS_tr hu n1.at_ (.inl n1.loc) n1.d1 n1.d2 rfl rfl (sE_bin (G.bop (o := .fdiv) rfl) n4.v n2.v) n3.v) (sS_cons (sS_ret (sE_bin (G.bop (o := .mod) rfl) n4.v n2.v)) sS_nil)) sS_nil) ?_
  refine sS_cons (n5.asg Gd.nd rfl (sE_bin (G.bop (o := .mod) rfl) (sE_bin (G.bop (o := .add) rfl) n4.v (sE_bin (G.bop (o := .mul) rfl) sE_i tc)) sE_i)) ?_
  refine sS_cons (n5.asg Gd.nd rfl (sE_bin (G.bop (o := .mod) rfl) (sE_bin (G.bop (o := .pow) rfl) n5.v sE_i) sE_i)) ?_
  exact sS_cons (sS_ret (sE_bin (G.bop (o := .mod) rfl) (sE_bin (G.bop (o := .fdiv) rfl) (sE_bin (G.bop (o := .mod) rfl) (sE_bin (G.bop (o := .add) rfl) (sE_bin (G.bop (o := .mul) rfl) (sE_bin (G.bop (o := .fdiv) rfl) n5.v sE_i) sE_i) n5.v) sE_i) sE_i) n2.v)) sS_nil
end
end
end MC
namespace MC
open PySem PySem.Spec L2
/-! ### the defs, one above the other -/
abbrev Ph := Nat → List D → M D
def upto (F : Nat → Ph → List D → M D) : Nat → Ph
  | 0 => fun _ _ => M.fail
  | n + 1 => fun f => if f < n then upto F n f else if f = n then F n (upto F n) else fun _ => M.fail
def Phi (F : Nat → Ph → List D → M D) : Ph := fun f => F f (upto F f)
theorem upto_lt {F : Nat → Ph → List D → M D} : ∀ {n m : Nat}, m < n → upto F n m = Phi F m
  | 0, m, h => absurd h (Nat.not_lt_zero _)
  | n + 1, m, h => by
    unfold upto
    by_cases e : m < n
    · rw [if_pos e]
      exact upto_lt e
    · have : m = n := by omega
      subst this
      rw [if_neg e, if_pos rfl]
      rfl
section
variable {T : Tab} {C : Cn} {P : Program} {w : World} {mg : Str → Option Value} {base : Heap} {F : Nat → Ph → List D → M D} {n : Nat}
theorem Mdl.upto (Md : Mdl T C P w mg base (Phi F) n) : Mdl T C P w mg base (MC.upto F n) n :=
  ⟨Md.bl, Md.cn, fun f hf => by rw [upto_lt hf]; exact Md.fn f hf, Md.ex⟩
/-- what is shown of one def -/
def DefOk (T : Tab) (C : Cn) (P : Program) (w : World) (mg : Str → Option Value) (base : Heap) (n : Nat) (Fn : List D → M D) : Prop :=
  ∃ fd ps, FnOk P w C.K mg base (L2.CX P w) (n + 1) (He.ga C.K (T.nm n)) fd ps (spM C ps.length Fn) ∧ ps.length = T.ar n ∧ mg (T.nm n) = some (.ref (He.ga C.K (T.nm n))) ∧ PySem.W.keepIn C.K (.ref (He.ga C.K (T.nm n))) = true ∧ Binds C.K fd ps [] ∧
    ∀ m ks perm, T.kw.contains (n, m, ks, perm) = true → KBn C.K fd ps m ks (permL perm) (permL perm)
theorem Mdl.step (Md : Mdl T C P w mg base (Phi F) n) (h : DefOk T C P w mg base n (Phi F n)) : Mdl T C P w mg base (Phi F) (n + 1) :=
  ⟨Md.bl, Md.cn, fun f hf => by
    by_cases e : f < n
    · exact Md.fn f e
    · have : f = n := by omega
      subst this
      exact h, Md.ex⟩
/-! ### parameters -/
theorem binds_of {x : Str} {a : Arguments} {bd : List Stmt} {sc : Scope} {f : Addr} {fd : FuncData} {ps : List Str} (Fd : FunD C.K x x a bd sc [] [] f fd)
    (h : ∀ (kV doc pm : Value) (an : Option Addr) (cdv ct : Value) (us : List Value), us.length = ps.length → bindArgs (PySem.W.fnOf x x a bd sc .none kV doc pm an cdv ct) ⟨us, []⟩ = pure (ps.zip us)) : Binds C.K fd ps [] := by
  obtain ⟨oc, od, dV, kV, doc, pm, an, cdv, ct, osl, rfl, lk, hcd, hD, hK⟩ := Fd.ex
  rcases hD with ⟨_, rfl⟩ | ⟨z, _⟩
  · exact .all fun us hl => h kV doc pm an cdv ct us hl
  · exact absurd rfl z
theorem vals_get {vs : List V} {us : List Value} (r : Vals vs us) (i : Nat) : (vs[i]? = none ∧ us[i]? = none) ∨ ∃ v u, vs[i]? = some v ∧ us[i]? = some u ∧ RelV v u := by
  cases e : vs[i]? with
  | none => exact .inl ⟨rfl, List.getElem?_eq_none (by rw [← r.length]; exact List.getElem?_eq_none_iff.mp e)⟩
  | some v =>
    obtain ⟨u, hu, ru⟩ := r.get e
    exact .inr ⟨v, u, rfl, hu, ru⟩
theorem vals_perm {vs zs : List V} {us ws : List Value} (r : Vals (vs ++ zs) (us ++ ws)) : ∀ perm : List Nat, Vals (permL perm vs zs) (permL perm us ws)
  | [] => .nil
  | i :: p => by
    unfold permL
    rw [List.filterMap_cons, List.filterMap_cons]
    rcases vals_get r i with ⟨e1, e2⟩ | ⟨v, u, e1, e2, e3⟩
    · rw [e1, e2]
      exact vals_perm r p
    · rw [e1, e2]
      exact .cons e3 (vals_perm r p)
/-- with keywords: by a look -/
theorem kbn_of {x : Str} {a : Arguments} {bd : List Stmt} {sc : Scope} {f : Addr} {fd : FuncData} {m : Nat} {ks ps : List Str} {perm : List Nat} (Fd : FunD C.K x x a bd sc [] [] f fd)
    (h : ∀ (kV doc pm : Value) (an : Option Addr) (cdv ct : Value) (us ws : List Value), us.length = m → ws.length = ks.length → bindArgs (PySem.W.fnOf x x a bd sc .none kV doc pm an cdv ct) ⟨us, ks.zip ws⟩ = pure (ps.zip (permL perm us ws))) : KBn C.K fd ps m ks (permL perm) (permL perm) := by
  obtain ⟨oc, od, dV, kV, doc, pm, an, cdv, ct, osl, rfl, lk, hcd, hD, hK⟩ := Fd.ex
  rcases hD with ⟨_, rfl⟩ | ⟨z, _⟩
  · exact ⟨fun s us ws _ h1 h2 => .of_eq (h kV doc pm an cdv ct us ws h1 h2), fun {vs us zs ws} r1 r2 => vals_perm (r1.append r2) perm⟩
  · exact absurd rfl z
/-! ### a def's scope -/
def parK (sc : Scope) (x : Str) : Bool := match sc.names.lookup x with
  | some .local => true
  | some .cell => true
  | _ => false
def isFree : NameKind → Bool
  | .free => true
  | _ => false
def isFun : ScopeKind → Bool
  | .function => true
  | _ => false
def scB (N Pn : List Str) (sc : Scope) : Bool := isFun sc.kind && !sc.isCoroutine && !sc.isGenerator && decide N.Nodup && decide (N.take Pn.length = Pn) && Pn.all (parK sc) && sc.names.all fun y => !isFree y.2
theorem scope_by {N Pn : List Str} {sc : Scope} (h : scB N Pn sc = true) : FnScope N Pn sc := by
  unfold scB at h
  simp only [Bool.and_eq_true, Bool.not_eq_true', decide_eq_true_eq, List.all_eq_true] at h
  obtain ⟨⟨⟨⟨⟨⟨h1, h2⟩, h3⟩, h4⟩, h5⟩, h6⟩, h7⟩ := h
  refine ⟨?_, h2, h3, h4, h5, fun x hx => ?_, fun y hy z => ?_⟩
  · cases e : sc.kind <;> rw [e] at h1 <;> first | rfl | cases h1
  · have := h6 x hx
    unfold parK at this
    split at this <;> simp_all
  · have := h7 y hy
    rw [z] at this
    cases this
/-! ### one def -/
section
variable {a : Arguments} {bd : List Stmt} {sc : Scope} {fd : FuncData} {N ps : List Str} {k fuel : Nat} {b : List S}
theorem step_def (Md : Mdl T C P w mg base (Phi F) n) {x : Str} (hx : T.nm n = x) (Fd : FunD C.K x x a bd sc [] [] (He.ga C.K x) fd) (hm : mg x = some (.ref (He.ga C.K x)))
    (h : ∀ (kV doc pm : Value) (an : Option Addr) (cdv ct : Value) (us : List Value), us.length = ps.length → bindArgs (PySem.W.fnOf x x a bd sc .none kV doc pm an cdv ct) ⟨us, []⟩ = pure (ps.zip us))
    (hk : ∀ m ks perm, T.kw.contains (n, m, ks, perm) = true → ∀ (kV doc pm : Value) (an : Option Addr) (cdv ct : Value) (us ws : List Value), us.length = m → ws.length = ks.length → bindArgs (PySem.W.fnOf x x a bd sc .none kV doc pm an cdv ct) ⟨us, ks.zip ws⟩ = pure (ps.zip (permL perm us ws)))
    (S1 : scB N ps sc = true) (ha : ps.length = T.ar n) (hN : N.length = ps.length + k) (hc : chkSs T ⟨N, sc, fun _ => true, n⟩ b bd = true) (hF : F n = fun Φ as => body Φ fuel b k as) : Mdl T C P w mg base (Phi F) (n + 1) := by
  refine Md.step ⟨fd, ps, ?_, ha, by rw [hx]; exact hm, by rw [hx]; exact Fd.kp, binds_of Fd h, fun m ks perm z => kbn_of Fd (hk m ks perm z)⟩
  rw [hx]
  exact def_okB Md.upto Fd (scope_by S1) hN (fun X W H0 ρ0 Gd => sndSs (fuel := fuel) b bd Gd hc) fun as _ => by
    unfold Phi
    rw [hF]
    rfl
/-- one that is run by hand -/
theorem step_own (Md : Mdl T C P w mg base (Phi F) n) {x : Str} (hx : T.nm n = x) (Fd : FunD C.K x x a bd sc [] [] (He.ga C.K x) fd) (hm : mg x = some (.ref (He.ga C.K x)))
    (h : ∀ (kV doc pm : Value) (an : Option Addr) (cdv ct : Value) (us : List Value), us.length = ps.length → bindArgs (PySem.W.fnOf x x a bd sc .none kV doc pm an cdv ct) ⟨us, []⟩ = pure (ps.zip us))
    (hk : ∀ m ks perm, T.kw.contains (n, m, ks, perm) = true → False)
    (S1 : scB N ps sc = true) (ha : ps.length = T.ar n) (hN : N.length = ps.length + k) {mB : List Sl → M Flow'} (hB : ∀ (X : Cx) (W : WX) (H0 : Hp) (ρ0 : Rho), GoodS T C (upto F n) ⟨N, sc, fun _ => true, n⟩ X W → PSs X bd (liftS C W H0 ρ0 mB))
    (hF : ∀ as, as.length = ps.length → F n (upto F n) as = M.bind (mB (as.map Sl.imm ++ List.replicate k .un)) retD) : Mdl T C P w mg base (Phi F) (n + 1) := by
  refine Md.step ⟨fd, ps, ?_, ha, by rw [hx]; exact hm, by rw [hx]; exact Fd.kp, binds_of Fd h, fun m ks perm z => (hk m ks perm z).elim⟩
  rw [hx]
  exact def_okB Md.upto Fd (scope_by S1) hN hB hF
/-- one that never comes -/
theorem step_bot (Md : Mdl T C P w mg base (Phi F) n) {x : Str} (hx : T.nm n = x) (Fd : FunD C.K x x a bd sc [] [] (He.ga C.K x) fd) (hm : mg x = some (.ref (He.ga C.K x)))
    (h : ∀ (kV doc pm : Value) (an : Option Addr) (cdv ct : Value) (us : List Value), us.length = ps.length → bindArgs (PySem.W.fnOf x x a bd sc .none kV doc pm an cdv ct) ⟨us, []⟩ = pure (ps.zip us))
    (hk : ∀ m ks perm, T.kw.contains (n, m, ks, perm) = true → False) (ha : ps.length = T.ar n) (hF : F n = fun _ _ => M.fail) : Mdl T C P w mg base (Phi F) (n + 1) := by
  refine Md.step ⟨fd, ps, ⟨fun vs H Q E q => q.1, fun A outer s H args us vs Q E _ _ _ _ hsp => ?_⟩, ha, by rw [hx]; exact hm, by rw [hx]; exact Fd.kp, binds_of Fd h, fun m ks perm z => (hk m ks perm z).elim⟩
  obtain ⟨_, ρ, g, ds, _, _, r, g', z, _⟩ := hsp
  unfold Phi at z
  rw [hF] at z
  cases z
end
end
end MC
namespace MC
open PySem PySem.Spec L2
theorem FnOk.cx {P : Program} {w : World} {K : PySem.W.Frag} {mg : Str → Option Value} {base : Heap} {CX CX' : CXT} {k : Nat} {f : Addr} {fd : FuncData} {ps : List Str} {sp : Sp} (F : FnOk P w K mg base CX k f fd ps sp) (h : ∀ o H s E e s', CX o H s E e s' → CX' o H s E e s') :
    FnOk P w K mg base CX' k f fd ps sp := by
  refine ⟨F.len, fun A outer s H args us vs Q E hr he hb hv hs => codeAny_mono (F.run A outer s H args us vs Q E hr he hb hv hs) fun r s' q => ?_⟩
  cases r with
  | error e => exact h _ _ _ _ _ _ q
  | ok fl => cases fl <;> exact q
theorem Sto.nil {H : Hp} : Sto [] [] H := ⟨rfl, fun n o p h _ => by simp at h, List.nodup_nil⟩
theorem scr_of {K : PySem.W.Frag} {H : Hp} {a : Addr} {ns : List Int} (hO : Only H) (h : SqL K H a (ns.map V.int)) : ScrAt K H a ns := by
  rcases h with (h | h) | h
  · rcases hO a with z | ⟨o, xs, z⟩
    · rw [z] at h; cases h
    · rw [z] at h; cases h
  · exact .inl h
  · exact .inr h
end MC
namespace MC
open PySem PySem.Spec L2
theorem bind_ok {α β : Type} {m : M α} {f : α → M β} {g g1 : G} {a : α} (h : m g = some (.ok a, g1)) : M.bind m f g = f a g1 := by
  unfold M.bind
  rw [h]
theorem bind_ex {α β : Type} {m : M α} {f : α → M β} {g g1 : G} {c : Str} (h : m g = some (.ex c, g1)) : M.bind m f g = some (.ex c, g1) := by
  unfold M.bind
  rw [h]
theorem seq_ok {m k : List Sl → M Flow'} {σ σ' : List Sl} {g g1 : G} (h : m σ g = some (.ok (.next σ'), g1)) : seqM m k σ g = k σ' g1 := by
  unfold seqM
  rw [bind_ok h]
theorem seq_ret {m k : List Sl → M Flow'} {σ : List Sl} {d : D} {g g1 : G} (h : m σ g = some (.ok (.ret d), g1)) : seqM m k σ g = some (.ok (.ret d), g1) := by
  unfold seqM
  rw [bind_ok h]
  rfl
/-- the one town: few keys -/
structure TwOk (len : Nat) (g : G) : Prop where
  ex : ∃ c r, g = [.town c r] ∧ (r.map (·.1)).Nodup ∧ ∀ q ∈ r, 0 ≤ q.1 ∧ q.1 < max 1 len
theorem few {n : Nat} : ∀ {l : List Int}, l.Nodup → (∀ q ∈ l, 0 ≤ q ∧ q < (n : Int)) → l.length ≤ n := by
  induction n with
  | zero =>
    intro l _ h
    cases l with
    | nil => exact Nat.le_refl _
    | cons a l =>
      have := h a List.mem_cons_self
      omega
  | succ n ih =>
    intro l nd h
    have h1 : (l.erase (n : Int)).length ≤ n := by
      refine ih (nd.erase _) fun q hq => ?_
      have hm := (nd.mem_erase_iff).mp hq
      have := h q hm.2
      have hne : q ≠ (n : Int) := hm.1
      omega
    by_cases hm : (n : Int) ∈ l
    · have := List.length_erase_of_mem hm
      omega
    · rw [List.erase_of_not_mem hm] at h1
      omega
theorem putT_keys {r : List (Int × Int)} {a v : Int} : (putT r a v).map (·.1) = if (r.any fun q => decide (q.1 = a)) = true then r.map (·.1) else r.map (·.1) ++ [a] := by
  unfold putT
  split
  · rw [List.map_map]
    refine List.map_congr_left fun q _ => ?_
    show (if q.1 = a then (q.1, v) else q).1 = q.1
    split <;> rfl
  · simp
theorem putT_ok {len : Nat} {r : List (Int × Int)} {a v : Int} (nd : (r.map (·.1)).Nodup) (h : ∀ q ∈ r, 0 ≤ q.1 ∧ q.1 < max 1 len) (ha : 0 ≤ a ∧ a < max 1 len) : ((putT r a v).map (·.1)).Nodup ∧ ∀ q ∈ putT r a v, 0 ≤ q.1 ∧ q.1 < max 1 len := by
  have key : ((putT r a v).map (·.1)).Nodup ∧ ∀ k : Int, k ∈ (putT r a v).map (·.1) → 0 ≤ k ∧ k < max 1 len := by
    rw [putT_keys]
    have h' : ∀ k : Int, k ∈ r.map (·.1) → 0 ≤ k ∧ k < max 1 len := fun k hk => by
      obtain ⟨q, hq, rfl⟩ := List.mem_map.mp hk
      exact h q hq
    split
    · exact ⟨nd, h'⟩
    · rename_i hn
      refine ⟨?_, fun k hk => ?_⟩
      · rw [List.nodup_append]
        refine ⟨nd, by simp, fun x hx y hy z => ?_⟩
        have hy : y = a := by simpa using hy
        subst hy
        subst z
        apply hn
        obtain ⟨q, hq, e⟩ := List.mem_map.mp hx
        exact List.any_eq_true.mpr ⟨q, hq, by simp [e]⟩
      · rcases List.mem_append.mp hk with z | z
        · exact h' k z
        · have : k = a := by simpa using z
          subst this
          exact ha
  exact ⟨key.1, fun q hq => key.2 q.1 (List.mem_map_of_mem hq)⟩
theorem op_mod {i j : Int} (h : 0 < j) : opD .mod (.int i) (.int j) = some (.int (i % j)) := by
  show (if 0 < j then some (D.int (i % j)) else none) = _
  rw [if_pos h]
theorem op_fdiv {i j : Int} (h : 0 < j) (h2 : j < 1073741824) : opD .fdiv (.int i) (.int j) = some (.int (i / j)) := by
  show (if 0 < j ∧ j < 1073741824 then some (D.int (i / j)) else none) = _
  rw [if_pos ⟨h, h2⟩]
theorem op_mulL {i j : Int} (h : -lim < i ∧ i < lim) : opD .mul (.int i) (.int j) = some (.int (i * j)) := by
  show (if (-lim < i ∧ i < lim) ∨ (-lim < j ∧ j < lim) then some (D.int (i * j)) else none) = _
  rw [if_pos (.inl h)]
theorem op_mulR {i j : Int} (h : -lim < j ∧ j < lim) : opD .mul (.int i) (.int j) = some (.int (i * j)) := by
  show (if (-lim < i ∧ i < lim) ∨ (-lim < j ∧ j < lim) then some (D.int (i * j)) else none) = _
  rw [if_pos (.inr h)]
theorem op_pow {i j : Int} (h : 0 ≤ j ∧ j ≤ 1000000 ∧ i.natAbs < 2 ^ 64) : opD .pow (.int i) (.int j) = some (.int (i ^ j.toNat)) := by
  show (if 0 ≤ j ∧ j ≤ 1000000 ∧ i.natAbs < 2 ^ 64 then some (D.int (i ^ j.toNat)) else none) = _
  rw [if_pos h]
theorem opM_ok {o : Op2} {a b : List Sl → M D} {σ : List Sl} {g : G} {x y z : D} (h1 : a σ g = some (.ok x, g)) (h2 : b σ g = some (.ok y, g)) (h3 : opD o x y = some z) : opM o a b σ g = some (.ok z, g) := by
  unfold opM
  rw [bind_ok h1, bind_ok h2, h3]
  rfl
section
variable {ns : List Int} {m c a rest num : Int} {r : List (Int × Int)}
theorem draw_ok {g : G} (hl : ns.length ≤ 63) (m0 : 0 < m) (m1 : m < 1073741824) (h : TwOk ns.length g) : ∃ v g', drawF [.scr ns, .obj 0, .int m] g = some (.ok (.int v), g') ∧ 0 ≤ v ∧ v < m ∧ TwOk ns.length g' := by
  obtain ⟨c, r, rfl, nd, hk⟩ := h.ex
  -- where it stands
  have hat : ∃ a, 0 ≤ a ∧ a < max 1 (ns.length : Int) ∧ (ns ≠ [] → a < ns.length) ∧ (asgM 3 (ifeM (vM 0) (opM .mod (tcM 1) (lenM (vM 0))) (cM (.int 0)))) [.imm (.scr ns), .imm (.obj 0), .imm (.int m), .un, .un, .un] [.town (c + 1) r] = some (.ok (.next [.imm (.scr ns), .imm (.obj 0), .imm (.int m), .imm (.int a), .un, .un]), [.town (c + 1) r]) := by
    cases e : ns with
    | nil => exact ⟨0, by omega, by simp; omega, fun z => absurd rfl z, rfl⟩
    | cons x t =>
      have hp : (0 : Int) < ((x :: t).length : Nat) := by rw [List.length_cons]; omega
      refine ⟨(c + 1) % ((x :: t).length : Nat), Int.emod_nonneg _ (by omega), ?_, fun _ => Int.emod_lt_of_pos _ hp, ?_⟩
      · have := Int.emod_lt_of_pos (c + 1) hp
        omega
      · unfold asgM
        have h1 : (ifeM (vM 0) (opM .mod (tcM 1) (lenM (vM 0))) (cM (.int 0))) [.imm (.scr (x :: t)), .imm (.obj 0), .imm (.int m), .un, .un, .un] [.town (c + 1) r] = some (.ok (.int ((c + 1) % ((x :: t).length : Nat))), [.town (c + 1) r]) := by
          show opM .mod (tcM 1) (lenM (vM 0)) [.imm (.scr (x :: t)), .imm (.obj 0), .imm (.int m), .un, .un, .un] [.town (c + 1) r] = _
          exact opM_ok (x := .int (c + 1)) (y := .int ((x :: t).length : Nat)) rfl rfl (op_mod hp)
        rw [bind_ok h1]
        rfl
  obtain ⟨a, a0, a1, a2, hA⟩ := hat
  have hrest : ∃ rest, (asgM 4 (tgM 1 (vM 3) (ifeM (vM 0) (ixM (vM 0) (vM 3)) (cM (.int 0))))) [.imm (.scr ns), .imm (.obj 0), .imm (.int m), .imm (.int a), .un, .un] [.town (c + 1) r] = some (.ok (.next [.imm (.scr ns), .imm (.obj 0), .imm (.int m), .imm (.int a), .imm (.int rest), .un]), [.town (c + 1) r]) := by
    have hd : ∃ d, (ifeM (vM 0) (ixM (vM 0) (vM 3)) (cM (.int 0))) [.imm (.scr ns), .imm (.obj 0), .imm (.int m), .imm (.int a), .un, .un] [.town (c + 1) r] = some (.ok (.int d), [.town (c + 1) r]) := by
      cases e : ns with
      | nil => exact ⟨0, rfl⟩
      | cons x t =>
        have hlt : a < ((x :: t).length : Nat) := by rw [← e]; exact a2 (by rw [e]; simp)
        have hi : ixN (x :: t).length a = some a.toNat := by
          unfold ixN
          rw [if_pos a0, if_pos hlt]
        have hj : a.toNat < (x :: t).length := by omega
        refine ⟨(x :: t)[a.toNat], ?_⟩
        show M.opt ((atI (x :: t) a).map D.int) [.town (c + 1) r] = _
        unfold atI
        rw [hi]
        show M.opt (((x :: t)[a.toNat]?).map D.int) _ = _
        rw [List.getElem?_eq_getElem hj]
        rfl
    obtain ⟨d, hd⟩ := hd
    cases q : getT r a with
    | some v =>
      refine ⟨v, ?_⟩
      unfold asgM tgM
      rw [bind_ok (a := .int v) (g1 := [.town (c + 1) r])]
      · rfl
      · rw [bind_ok (a := (0, c + 1, r)) (g1 := [.town (c + 1) r]) rfl, bind_ok (a := .int a) (g1 := [.town (c + 1) r]) rfl, bind_ok hd, bind_ok (a := (0, c + 1, r)) (g1 := [.town (c + 1) r]) rfl]
        show M.pure (match getT r a with | some v => D.int v | none => D.int d) _ = _
        rw [q]
        rfl
    | none =>
      refine ⟨d, ?_⟩
      unfold asgM tgM
      rw [bind_ok (a := .int d) (g1 := [.town (c + 1) r])]
      · rfl
      · rw [bind_ok (a := (0, c + 1, r)) (g1 := [.town (c + 1) r]) rfl, bind_ok (a := .int a) (g1 := [.town (c + 1) r]) rfl, bind_ok hd, bind_ok (a := (0, c + 1, r)) (g1 := [.town (c + 1) r]) rfl]
        show M.pure (match getT r a with | some v => D.int v | none => D.int d) _ = _
        rw [q]
        rfl
  obtain ⟨rest, hR⟩ := hrest
  have len : r.length ≤ 63 := by
    have h1 := few (n := max 1 ns.length) nd fun k hk' => by
      obtain ⟨q, hq, rfl⟩ := List.mem_map.mp hk'
      have := hk q hq
      omega
    rw [List.length_map] at h1
    omega
  suffices hs : ∃ v g', drawB [.imm (.scr ns), .imm (.obj 0), .imm (.int m), .un, .un, .un] [.town c r] = some (.ok (.ret (.int v)), g') ∧ 0 ≤ v ∧ v < m ∧ TwOk ns.length g' by
    obtain ⟨v, g', h1, h2⟩ := hs
    refine ⟨v, g', ?_, h2⟩
    show M.bind (drawB [.imm (.scr ns), .imm (.obj 0), .imm (.int m), .un, .un, .un]) retD [.town c r] = _
    rw [bind_ok h1]
    rfl
  unfold drawB
  rw [seq_ok (σ' := [Sl.imm (.scr ns), .imm (.obj 0), .imm (.int m), .un, .un, .un]) (g1 := [.town (c + 1) r]) rfl, seq_ok hA, seq_ok hR]
  by_cases hb : 1000000000000000000 ≤ rest
  · have hc : opM .ge (vM 4) (opM .pow (cM (.int 10)) (cM (.int 18))) [.imm (.scr ns), .imm (.obj 0), .imm (.int m), .imm (.int a), .imm (.int rest), .un] [.town (c + 1) r] = some (.ok (.bl true), [.town (c + 1) r]) := by
      refine opM_ok (x := .int rest) (y := .int (10 ^ 18)) rfl rfl ?_
      show some (D.bl (decide ((10 : Int) ^ 18 ≤ rest))) = _
      rw [decide_eq_true (by have : (10 : Int) ^ 18 = 1000000000000000000 := by decide
                             omega)]
    have hi : (ifS (opM .ge (vM 4) (opM .pow (cM (.int 10)) (cM (.int 18)))) (seqM (trS 1 (vM 3) (opM .fdiv (vM 4) (vM 2))) (seqM (retM (opM .mod (vM 4) (vM 2))) nilM)) nilM) [.imm (.scr ns), .imm (.obj 0), .imm (.int m), .imm (.int a), .imm (.int rest), .un] [.town (c + 1) r] = some (.ok (.ret (.int (rest % m))), [.town (c + 1) (putT r a (rest / m))]) := by
      unfold ifS
      rw [bind_ok hc, bind_ok (a := true) (g1 := [.town (c + 1) r]) rfl]
      show seqM (trS 1 (vM 3) (opM .fdiv (vM 4) (vM 2))) (seqM (retM (opM .mod (vM 4) (vM 2))) nilM) [.imm (.scr ns), .imm (.obj 0), .imm (.int m), .imm (.int a), .imm (.int rest), .un] [.town (c + 1) r] = _
      have ht : trS 1 (vM 3) (opM .fdiv (vM 4) (vM 2)) [.imm (.scr ns), .imm (.obj 0), .imm (.int m), .imm (.int a), .imm (.int rest), .un] [.town (c + 1) r] = some (.ok (.next [.imm (.scr ns), .imm (.obj 0), .imm (.int m), .imm (.int a), .imm (.int rest), .un]), [.town (c + 1) (putT r a (rest / m))]) := by
        unfold trS
        rw [bind_ok (opM_ok (x := .int rest) (y := .int m) rfl rfl (op_fdiv m0 m1)), bind_ok (a := (0, c + 1, r)) (g1 := [.town (c + 1) r]) rfl, bind_ok (a := .int a) (g1 := [.town (c + 1) r]) rfl, bind_ok (a := (0, c + 1, r)) (g1 := [.town (c + 1) r]) rfl]
        show (if r.length < sizeLine then M.bind (twP 0 (c + 1) (putT r a (rest / m))) (fun _ => M.pure (Flow'.next _)) else M.fail) _ = _
        rw [if_pos (by rw [sizeLine_eq]; omega)]
        rfl
      rw [seq_ok ht]
      refine seq_ret ?_
      unfold retM
      rw [bind_ok (opM_ok (x := .int rest) (y := .int m) rfl rfl (op_mod m0))]
      rfl
    rw [seq_ret hi]
    obtain ⟨p1, p2⟩ := putT_ok (v := rest / m) nd hk ⟨a0, by omega⟩
    exact ⟨rest % m, _, rfl, Int.emod_nonneg _ (by omega), Int.emod_lt_of_pos _ m0, ⟨_, _, rfl, p1, p2⟩⟩
  · have hc : opM .ge (vM 4) (opM .pow (cM (.int 10)) (cM (.int 18))) [.imm (.scr ns), .imm (.obj 0), .imm (.int m), .imm (.int a), .imm (.int rest), .un] [.town (c + 1) r] = some (.ok (.bl false), [.town (c + 1) r]) := by
      refine opM_ok (x := .int rest) (y := .int (10 ^ 18)) rfl rfl ?_
      show some (D.bl (decide ((10 : Int) ^ 18 ≤ rest))) = _
      rw [decide_eq_false (by have : (10 : Int) ^ 18 = 1000000000000000000 := by decide
                              omega)]
    have hi : (ifS (opM .ge (vM 4) (opM .pow (cM (.int 10)) (cM (.int 18)))) (seqM (trS 1 (vM 3) (opM .fdiv (vM 4) (vM 2))) (seqM (retM (opM .mod (vM 4) (vM 2))) nilM)) nilM) [.imm (.scr ns), .imm (.obj 0), .imm (.int m), .imm (.int a), .imm (.int rest), .un] [.town (c + 1) r] = some (.ok (.next [.imm (.scr ns), .imm (.obj 0), .imm (.int m), .imm (.int a), .imm (.int rest), .un]), [.town (c + 1) r]) := by
      unfold ifS
      rw [bind_ok hc, bind_ok (a := false) (g1 := [.town (c + 1) r]) rfl]
      rfl
    rw [seq_ok hi]
    have n1 := Int.emod_nonneg (rest + 104729 * (c + 1)) (show (4294967291 : Int) ≠ 0 by decide)
    have n2 := Int.emod_lt_of_pos (rest + 104729 * (c + 1)) (show (0 : Int) < 4294967291 by decide)
    have s5 : asgM 5 (opM .mod (opM .add (vM 4) (opM .mul (cM (.int 104729)) (tcM 1))) (cM (.int 4294967291))) [.imm (.scr ns), .imm (.obj 0), .imm (.int m), .imm (.int a), .imm (.int rest), .un] [.town (c + 1) r] = some (.ok (.next [.imm (.scr ns), .imm (.obj 0), .imm (.int m), .imm (.int a), .imm (.int rest), .imm (.int ((rest + 104729 * (c + 1)) % 4294967291))]), [.town (c + 1) r]) := by
      unfold asgM
      rw [bind_ok (opM_ok (x := .int (rest + 104729 * (c + 1))) (y := .int 4294967291) (opM_ok (x := .int rest) (y := .int (104729 * (c + 1))) rfl (opM_ok (x := .int 104729) (y := .int (c + 1)) rfl rfl (op_mulL (by unfold lim; omega))) rfl) rfl (op_mod (by decide)))]
      rfl
    rw [seq_ok s5]
    generalize (rest + 104729 * (c + 1)) % 4294967291 = k at n1 n2
    have s6 : asgM 5 (opM .mod (opM .pow (vM 5) (cM (.int 5))) (cM (.int 4294967279))) [.imm (.scr ns), .imm (.obj 0), .imm (.int m), .imm (.int a), .imm (.int rest), .imm (.int k)] [.town (c + 1) r] = some (.ok (.next [.imm (.scr ns), .imm (.obj 0), .imm (.int m), .imm (.int a), .imm (.int rest), .imm (.int (k ^ 5 % 4294967279))]), [.town (c + 1) r]) := by
      unfold asgM
      rw [bind_ok (opM_ok (x := .int (k ^ 5)) (y := .int 4294967279) (opM_ok (x := .int k) (y := .int 5) rfl rfl (op_pow ⟨by decide, by decide, by omega⟩)) rfl (op_mod (by decide)))]
      rfl
    rw [seq_ok s6]
    generalize k ^ 5 % 4294967279 = j
    have s7 : retM (opM .mod (opM .fdiv (opM .mod (opM .add (opM .mul (opM .fdiv (vM 5) (cM (.int 64))) (cM (.int 69621))) (vM 5)) (cM (.int 4294967231))) (cM (.int 8))) (vM 2)) [.imm (.scr ns), .imm (.obj 0), .imm (.int m), .imm (.int a), .imm (.int rest), .imm (.int j)] [.town (c + 1) r] = some (.ok (.ret (.int ((j / 64 * 69621 + j) % 4294967231 / 8 % m))), [.town (c + 1) r]) := by
      unfold retM
      rw [bind_ok (opM_ok (x := .int ((j / 64 * 69621 + j) % 4294967231 / 8)) (y := .int m) (opM_ok (x := .int ((j / 64 * 69621 + j) % 4294967231)) (y := .int 8) (opM_ok (x := .int (j / 64 * 69621 + j)) (y := .int 4294967231) (opM_ok (x := .int (j / 64 * 69621)) (y := .int j) (opM_ok (x := .int (j / 64)) (y := .int 69621) (opM_ok (x := .int j) (y := .int 64) rfl rfl (op_fdiv (by decide) (by decide))) rfl (op_mulR (by unfold lim; omega))) rfl rfl) rfl (op_mod (by decide))) rfl (op_fdiv (by decide) (by decide))) rfl (op_mod m0))]
      rfl
    rw [seq_ret s7]
    exact ⟨_, _, rfl, Int.emod_nonneg _ (by omega), Int.emod_lt_of_pos _ m0, ⟨_, _, rfl, nd, hk⟩⟩
end
end MC
namespace MC
open PySem PySem.Spec L2
/-! ### comprehensions that leave the store -/
theorem comp_pure {tg : Tg} {test : List Sl → M Bool} {elt : List Sl → M D} {σ : List Sl} {g : G} (f : D → D) (t : D → Bool) : ∀ items : List D, (∀ d ∈ items, ∃ σ', put tg d σ = some σ' ∧ test σ' g = some (.ok (t d), g) ∧ (t d = true → elt σ' g = some (.ok (f d), g))) →
    compL tg test elt σ items g = some (.ok ((items.filter t).map f), g)
  | [], _ => rfl
  | d :: r, h => by
    obtain ⟨σ', h1, h2, h3⟩ := h d List.mem_cons_self
    have ih := comp_pure f t r fun x hx => h x (List.mem_cons_of_mem _ hx)
    unfold compL
    rw [h1]
    show (M.bind (test σ') _) g = _
    rw [bind_ok h2]
    cases e : t d with
    | false =>
      rw [List.filter_cons_of_neg (by rw [e]; exact Bool.false_ne_true)]
      exact ih
    | true =>
      rw [List.filter_cons_of_pos e]
      show (M.bind (elt σ') _) g = _
      rw [bind_ok (h3 e), bind_ok ih]
      rfl
theorem noex_ok {α : Type} {m : M α} {g g' : G} {a : α} (h : m g = some (.ok a, g')) : M.noex m g = some (.ok a, g') := by
  unfold M.noex
  rw [h]
section
variable {Φ : Ph} {σ : List Sl} {g g1 g2 : G}
theorem ev_comp {elt : E} {tg : Tg} {own : List Nat} {it : It} {cs : List E} {items ds : List D} (h1 : evi Φ it σ g = some (.ok items, g1)) (h2 : compL tg (fun σ' => evt Φ cs σ') (fun σ' => ev Φ elt σ') (clear own σ) items g1 = some (.ok ds, g2)) :
    ev Φ (.comp elt tg own it cs) σ g = some (.ok (.lst ds), g2) := by
  rw [ev, bind_ok h1, bind_ok (noex_ok h2)]
  rfl
theorem ev_prim {p : Pr} {e : E} {d r : D} (h : ev Φ e σ g = some (.ok d, g1)) (h2 : prD p [d] = some r) : ev Φ (.prim p [e]) σ g = some (.ok r, g1) := by
  have : evs Φ [e] σ g = some (.ok [d], g1) := by
    rw [evs, bind_ok h, evs]
    rfl
  rw [ev, bind_ok this, h2]
  rfl
theorem asBools_map (p : D → Bool) : ∀ l : List D, asBools (l.map fun d => .bl (p d)) = some (l.map p)
  | [] => rfl
  | d :: l => by
    show (asBools (l.map fun d => D.bl (p d))).map (p d :: ·) = _
    rw [asBools_map p l]
    rfl
theorem all_map (p : D → Bool) (l : List D) : prD .all [.lst (l.map fun d => .bl (p d))] = some (.bl (l.all p)) := by
  show (asBools (l.map fun d => D.bl (p d))).map (fun bs => D.bl (bs.all id)) = _
  rw [asBools_map]
  show some (D.bl ((l.map p).all id)) = _
  rw [List.all_map]
  rfl
theorem filter_true {α : Type} (l : List α) : l.filter (fun _ => true) = l := List.filter_eq_self.mpr fun _ _ => rfl
/-- all([..]) over values, no test -/
theorem ev_all {elt : E} {tg : Tg} {own : List Nat} {it : It} {items : List D} (p : D → Bool) (h1 : evi Φ it σ g = some (.ok items, g)) (h2 : ∀ d ∈ items, ∃ σ', put tg d (clear own σ) = some σ' ∧ ev Φ elt σ' g = some (.ok (.bl (p d)), g)) :
    ev Φ (.prim .all [.comp elt tg own it []]) σ g = some (.ok (.bl (items.all p)), g) := by
  refine ev_prim (d := .lst (items.map fun d => .bl (p d))) (ev_comp h1 ?_) (all_map p items)
  have := comp_pure (tg := tg) (test := fun σ' => evt Φ [] σ') (elt := fun σ' => ev Φ elt σ') (σ := clear own σ) (g := g) (fun d => .bl (p d)) (fun _ => true) items fun d hd => by
    obtain ⟨σ', e1, e2⟩ := h2 d hd
    exact ⟨σ', e1, by rw [evt]; rfl, fun _ => e2⟩
  rw [filter_true] at this
  exact this
/-- [x for x in l if ..] -/
theorem ev_filter {i : Nat} {it : It} {c : E} {items : List D} (t : D → Bool) (hi : i < σ.length) (h1 : evi Φ it σ g = some (.ok items, g)) (h2 : ∀ d ∈ items, evt Φ [c] ((clear [i] σ).set i (.imm d)) g = some (.ok (t d), g)) :
    ev Φ (.comp (.var i) (.n i) [i] it [c]) σ g = some (.ok (.lst (items.filter t)), g) := by
  have := comp_pure (tg := .n i) (test := fun σ' => evt Φ [c] σ') (elt := fun σ' => ev Φ (.var i) σ') (σ := clear [i] σ) (g := g) (fun d => d) t items fun d hd => by
    refine ⟨(clear [i] σ).set i (.imm d), ?_, h2 d hd, fun _ => ?_⟩
    · show (if i < (σ.set i .un).length then some ((σ.set i .un).set i (.imm d)) else none) = _
      rw [if_pos (by rw [List.length_set]; exact hi)]
      rfl
    · rw [ev]
      unfold slotD slot clear clear
      rw [List.getD_eq_getElem?_getD, List.getElem?_set_self (by rw [List.length_set]; exact hi)]
      rfl
  rw [List.map_id'] at this
  exact ev_comp h1 this
end
/-! ### statements, one after another -/
section
variable {Φ : Ph} {fuel : Nat} {σ σ' : List Sl} {g g1 g2 : G} {r : List S} {e c : E} {d x : D}
theorem exs_cons {s : S} (h : ex Φ fuel s σ g = some (.ok (.next σ'), g1)) : exs Φ fuel (s :: r) σ g = exs Φ fuel r σ' g1 := by
  rw [exs, bind_ok h]
theorem exs_stop {s : S} (h : ex Φ fuel s σ g = some (.ok (.ret d), g1)) : exs Φ fuel (s :: r) σ g = some (.ok (.ret d), g1) := by
  rw [exs, bind_ok h]
  rfl
theorem exs_exc {s : S} {k : Str} (h : ex Φ fuel s σ g = some (.ex k, g1)) : exs Φ fuel (s :: r) σ g = some (.ex k, g1) := by
  rw [exs, bind_ex h]
theorem exs_ret (h : ev Φ e σ g = some (.ok d, g1)) : exs Φ fuel (.ret e :: r) σ g = some (.ok (.ret d), g1) := exs_stop (by rw [ex, bind_ok h]; rfl)
theorem exs_asg {tg : Tg} (h : ev Φ e σ g = some (.ok d, g1)) (h2 : put tg d σ = some σ') : exs Φ fuel (.asg tg e :: r) σ g = exs Φ fuel r σ' g1 := exs_cons (by rw [ex, bind_ok h, h2]; rfl)
theorem exs_exp (h : ev Φ e σ g = some (.ok d, g1)) : exs Φ fuel (.exp e :: r) σ g = exs Φ fuel r σ g1 := exs_cons (by rw [ex, bind_ok h]; rfl)
theorem exs_new {i : Nat} {l : List D} (h : ev Φ e σ g = some (.ok (.lst l), g1)) (hi : i < σ.length) : exs Φ fuel (.new i e :: r) σ g = exs Φ fuel r (σ.set i (.ml l)) g1 := exs_cons (by
  rw [ex, bind_ok h]
  show (if i < σ.length then M.pure (Flow'.next (σ.set i (.ml l))) else M.fail) g1 = _
  rw [if_pos hi]
  rfl)
theorem exs_fz {i : Nat} {l : List D} (h : slot σ i = .ml l) : exs Φ fuel (.fz i :: r) σ g = exs Φ fuel r (σ.set i (.imm (.lst l))) g := exs_cons (by
  rw [ex]
  unfold fzS
  rw [h]
  rfl)
theorem exs_app {i : Nat} {l : List D} (hs : slot σ i = .ml l) (h : ev Φ e σ g = some (.ok d, g1)) (hl : l.length < sizeLine) : exs Φ fuel (.app i e :: r) σ g = exs Φ fuel r (σ.set i (.ml (l ++ [d]))) g1 := exs_cons (by
  have h0 : mlS σ i g = some (.ok l, g) := by
    unfold mlS
    rw [hs]
    rfl
  rw [ex, bind_ok h0, bind_ok h]
  unfold appS
  rw [hs]
  show (if l.length < sizeLine then M.pure (Flow'.next (σ.set i (.ml (l ++ [d])))) else M.fail) g1 = _
  rw [if_pos hl]
  rfl)
theorem ife_t {a b : List S} (h : ev Φ c σ g = some (.ok x, g1)) (ht : truth x = some true) : ex Φ fuel (.ife c a b) σ g = exs Φ fuel a σ g1 := by
  rw [ex, bind_ok h, ht]
  rfl
theorem ife_f {a b : List S} (h : ev Φ c σ g = some (.ok x, g1)) (ht : truth x = some false) : ex Φ fuel (.ife c a b) σ g = exs Φ fuel b σ g1 := by
  rw [ex, bind_ok h, ht]
  rfl
/-- if c: return d -/
theorem exs_ifR {a b : List S} (h : ev Φ c σ g = some (.ok (.bl true), g1)) (h2 : exs Φ fuel a σ g1 = some (.ok (.ret d), g2)) : exs Φ fuel (.ife c a b :: r) σ g = some (.ok (.ret d), g2) := exs_stop ((ife_t h rfl).trans h2)
theorem exs_ifN {a : List S} (h : ev Φ c σ g = some (.ok (.bl false), g1)) : exs Φ fuel (.ife c a [] :: r) σ g = exs Φ fuel r σ g1 := exs_cons ((ife_f h rfl).trans (by rw [exs]; rfl))
theorem exs_nil : exs Φ fuel [] σ g = some (.ok (.next σ), g) := by rw [exs]; rfl
theorem body_ret {b : List S} {k : Nat} {as : List D} (h : exs Φ fuel b (as.map Sl.imm ++ List.replicate k .un) g = some (.ok (.ret d), g1)) : body Φ fuel b k as g = some (.ok d, g1) := by
  unfold body
  rw [bind_ok h]
  rfl
theorem body_next {b : List S} {k : Nat} {as : List D} (h : exs Φ fuel b (as.map Sl.imm ++ List.replicate k .un) g = some (.ok (.next σ), g1)) : body Φ fuel b k as g = some (.ok .non, g1) := by
  unfold body
  rw [bind_ok h]
  rfl
theorem ev_call {f : Nat} {es : List E} {ds : List D} {q : R D} (h : evs Φ es σ g = some (.ok ds, g1)) (h2 : Φ f ds g1 = some (q, g2)) : ev Φ (.call f es) σ g = some (q, g2) := by
  rw [ev, bind_ok h, h2]
theorem evs_one (h : ev Φ e σ g = some (.ok d, g1)) : evs Φ [e] σ g = some (.ok [d], g1) := by
  rw [evs, bind_ok h, evs]
  rfl
theorem evs_cons {es : List E} {ds : List D} (h : ev Φ e σ g = some (.ok d, g1)) (h2 : evs Φ es σ g1 = some (.ok ds, g2)) : evs Φ (e :: es) σ g = some (.ok (d :: ds), g2) := by
  rw [evs, bind_ok h, bind_ok h2]
  rfl
end
/-! ### plain values -/
mutual
def gd : Nat → D → Bool
  | _, .non => true
  | _, .bl _ => true
  | _, .int _ => true
  | _, .str x => PyData.strOk x
  | 0, .tup _ => false
  | n + 1, .tup l => gds n l
  | 0, .lst _ => false
  | n + 1, .lst l => gds n l
  | _, _ => false
def gds : Nat → List D → Bool
  | _, [] => true
  | n, d :: l => gd n d && gds n l
end
mutual
theorem gd_sh : ∀ (n : Nat) (d : D), gd n d = true → d.py.canLay0 = true ∧ d.py.depth ≤ n
  | _, .non, _ => ⟨rfl, Nat.zero_le _⟩
  | _, .bl _, _ => ⟨rfl, Nat.zero_le _⟩
  | _, .int _, _ => ⟨rfl, Nat.zero_le _⟩
  | n, .str x, h => by
    unfold gd at h
    exact ⟨h, Nat.zero_le _⟩
  | 0, .tup l, h => by unfold gd at h; cases h
  | n + 1, .tup l, h => by
    unfold gd at h
    obtain ⟨h1, h2⟩ := gds_sh n l h
    refine ⟨h1, ?_⟩
    show PyData.depthAll (pys l) + 1 ≤ n + 1
    omega
  | 0, .lst l, h => by unfold gd at h; cases h
  | n + 1, .lst l, h => by
    unfold gd at h
    obtain ⟨h1, h2⟩ := gds_sh n l h
    refine ⟨h1, ?_⟩
    show PyData.depthAll (pys l) + 1 ≤ n + 1
    omega
  | n, .dct _ _, h => by unfold gd at h; cases h
  | n, .ins _ _ _, h => by unfold gd at h; cases h
  | n, .fn _, h => by unfold gd at h; cases h
  | n, .obj _, h => by unfold gd at h; cases h
  | n, .scr _, h => by unfold gd at h; cases h
theorem gds_sh : ∀ (n : Nat) (l : List D), gds n l = true → PyData.canLayAll0 (pys l) = true ∧ PyData.depthAll (pys l) ≤ n
  | n, [], _ => ⟨rfl, Nat.zero_le _⟩
  | n, d :: l, h => by
    unfold gds at h
    obtain ⟨h1, h2⟩ := Bool.and_eq_true_iff.mp h
    obtain ⟨a1, a2⟩ := gd_sh n d h1
    obtain ⟨b1, b2⟩ := gds_sh n l h2
    refine ⟨Bool.and_eq_true_iff.mpr ⟨a1, b1⟩, ?_⟩
    show max _ _ ≤ n
    omega
end
theorem gd_ok {n : Nat} {d : D} (h : gd n d = true) (hn : n ≤ 64) : d.sh = true := by
  obtain ⟨h1, h2⟩ := gd_sh n d h
  unfold D.sh SeqAt.shaped
  rw [h1, decide_eq_true (by omega)]
  rfl
end MC
namespace MC
open PySem PySem.Spec L2
theorem cut_from {α : Type} (l : List α) (k : Nat) : cutL l (some (k : Int)) none = l.drop k := by
  unfold cutL
  rw [HT.sIx_nat, HT.sIx_none]
  by_cases h : k ≤ l.length
  · rw [Nat.min_eq_left h, List.take_of_length_le (by rw [List.length_drop]; omega)]
  · rw [Nat.min_eq_right (by omega), List.drop_length, List.take_nil, List.drop_eq_nil_of_le (by omega)]
theorem cut_to {α : Type} (l : List α) (k : Nat) : cutL l none (some (k : Int)) = l.take k := by
  unfold cutL
  rw [HT.sIx_nat, HT.sIx_none, List.drop_zero, Nat.sub_zero]
  by_cases h : k ≤ l.length
  · rw [Nat.min_eq_left h]
  · rw [Nat.min_eq_right (by omega), List.take_length, List.take_of_length_le (by omega)]
theorem cut_neg1 {α : Type} (l : List α) : cutL l none (some (-1)) = l.dropLast := by
  unfold cutL
  rw [HT.sIx_none, List.drop_zero, Nat.sub_zero]
  show l.take ((-1 + (l.length : Int)).toNat) = _
  rw [List.dropLast_eq_take]
  congr 1
  omega
section
variable {Φ : Ph} {σ : List Sl} {g g1 g2 : G} {e e' : E} {es : List E} {d : D} {q : R D}
theorem or_t (h : ev Φ e σ g = some (.ok (.bl true), g1)) : ev Φ (.or (e :: es)) σ g = some (.ok (.bl true), g1) := by
  rw [ev]
  cases es with
  | nil => rw [evOr]; exact h
  | cons e' es => rw [evOr, bind_ok h]; rfl; intro z; cases z
theorem or_f (h : ev Φ e σ g = some (.ok (.bl false), g1)) (h2 : ev Φ (.or (e' :: es)) σ g1 = some (q, g2)) : ev Φ (.or (e :: e' :: es)) σ g = some (q, g2) := by
  rw [ev] at h2 ⊢
  rw [evOr, bind_ok h]
  exact h2
  intro z; cases z
theorem or_1 (h : ev Φ e σ g = some (q, g1)) : ev Φ (.or [e]) σ g = some (q, g1) := by
  rw [ev, evOr]
  exact h
theorem and_f (h : ev Φ e σ g = some (.ok (.bl false), g1)) : ev Φ (.and (e :: es)) σ g = some (.ok (.bl false), g1) := by
  rw [ev]
  cases es with
  | nil => rw [evAnd]; exact h
  | cons e' es => rw [evAnd, bind_ok h]; rfl; intro z; cases z
theorem and_t (h : ev Φ e σ g = some (.ok (.bl true), g1)) (h2 : ev Φ (.and (e' :: es)) σ g1 = some (q, g2)) : ev Φ (.and (e :: e' :: es)) σ g = some (q, g2) := by
  rw [ev] at h2 ⊢
  rw [evAnd, bind_ok h]
  exact h2
  intro z; cases z
theorem and_1 (h : ev Φ e σ g = some (q, g1)) : ev Φ (.and [e]) σ g = some (q, g1) := by
  rw [ev, evAnd]
  exact h
/-- by the value of the first -/
theorem and_b {b b' : Bool} (h : ev Φ e σ g = some (.ok (.bl b), g)) (h2 : b = true → ev Φ (.and (e' :: es)) σ g = some (.ok (.bl b'), g)) : ev Φ (.and (e :: e' :: es)) σ g = some (.ok (.bl (b && b')), g) := by
  cases b with
  | true => exact and_t h (h2 rfl)
  | false => exact and_f h
theorem or_b {b b' : Bool} (h : ev Φ e σ g = some (.ok (.bl b), g)) (h2 : b = false → ev Φ (.or (e' :: es)) σ g = some (.ok (.bl b'), g)) : ev Φ (.or (e :: e' :: es)) σ g = some (.ok (.bl (b || b')), g) := by
  cases b with
  | false => exact or_f h (h2 rfl)
  | true => exact or_t h
theorem not_b {b : Bool} (h : ev Φ e σ g = some (.ok (.bl b), g1)) : ev Φ (.not e) σ g = some (.ok (.bl (!b)), g1) := by
  rw [ev, bind_ok h]
  rfl
theorem op_b {o : Op2} {x y z : D} (h : ev Φ e σ g = some (.ok x, g1)) (h2 : ev Φ e' σ g1 = some (.ok y, g2)) (h3 : opD o x y = some z) : ev Φ (.op o e e') σ g = some (.ok z, g2) := by
  rw [ev, bind_ok h, bind_ok h2, h3]
  rfl
theorem op_eq {x y : D} (h1 : x.sh = true) (h2 : y.sh = true) : opD .eq x y = some (.bl (eqD x y)) := by
  show (if (x.sh && y.sh) = true then _ else _) = _
  rw [h1, h2]
  rfl
theorem op_ne {x y : D} (h1 : x.sh = true) (h2 : y.sh = true) : opD .ne x y = some (.bl (!eqD x y)) := by
  show (if (x.sh && y.sh) = true then _ else _) = _
  rw [h1, h2]
  rfl
theorem op_mem {x : D} {l : List D} (h1 : x.sh = true) (h2 : (D.tup l).sh = true) : opD .mem x (.tup l) = some (.bl (l.any fun z => eqD z x)) := by
  show (if (x.sh && (D.tup l).sh) = true then some (l.any fun z => eqD z x) else none).map D.bl = _
  rw [h1, h2]
  rfl
end
/-- if c: return d, by the value of c -/
theorem exs_ifB {Φ : Ph} {fuel : Nat} {σ : List Sl} {g : G} {c e : E} {r : List S} {b b' : Bool} {d : Bool} (h : ev Φ c σ g = some (.ok (.bl b), g)) (he : ev Φ e σ g = some (.ok (.bl d), g)) (h2 : b = false → exs Φ fuel r σ g = some (.ok (.ret (.bl b')), g)) :
    exs Φ fuel (.ife c [.ret e] [] :: r) σ g = some (.ok (.ret (.bl (bif b then d else b'))), g) := by
  cases b with
  | true => exact exs_ifR h (exs_ret he)
  | false => rw [exs_ifN h]; exact h2 rfl
end MC
namespace MC
open PySem PySem.Spec L2
/-! ### runs that draw -/
def Got {α : Type} (len : Nat) (m : M α) (Q : α → Prop) : Prop := ∀ g, TwOk len g → ∃ a g', m g = some (.ok a, g') ∧ Q a ∧ TwOk len g'
section
variable {len : Nat} {Φ : Ph} {fuel : Nat} {σ σ' : List Sl}
theorem Got.bind {α β : Type} {m : M α} {f : α → M β} {P : α → Prop} {Q : β → Prop} (h1 : Got len m P) (h2 : ∀ a, P a → Got len (f a) Q) : Got len (M.bind m f) Q := fun g hg => by
  obtain ⟨a, g1, e1, pa, hg1⟩ := h1 g hg
  obtain ⟨b, g2, e2, qb, hg2⟩ := h2 a pa g1 hg1
  exact ⟨b, g2, by rw [bind_ok e1]; exact e2, qb, hg2⟩
theorem Got.pure {α : Type} {a : α} {Q : α → Prop} (h : Q a) : Got len (M.pure a) Q := fun g hg => ⟨a, g, rfl, h, hg⟩
theorem Got.of {α : Type} {m : M α} {a : α} {Q : α → Prop} (h : ∀ g, m g = some (.ok a, g)) (q : Q a) : Got len m Q := fun g hg => ⟨a, g, h g, q, hg⟩
theorem Got.imp {α : Type} {m : M α} {P Q : α → Prop} (h : Got len m P) (k : ∀ a, P a → Q a) : Got len m Q := fun g hg => by
  obtain ⟨a, g1, e1, pa, hg1⟩ := h g hg
  exact ⟨a, g1, e1, k a pa, hg1⟩
theorem Got.eq {α : Type} {m m' : M α} {Q : α → Prop} (h : Got len m Q) (e : m' = m) : Got len m' Q := e ▸ h
theorem Got.opt {α : Type} {o : Option α} {a : α} {Q : α → Prop} (h : o = some a) (q : Q a) : Got len (M.opt o) Q := by
  rw [h]
  exact .pure q
/-- the draw -/
theorem got_draw {ns : List Int} {m : Int} (hl : ns.length ≤ 63) (m0 : 0 < m) (m1 : m < 1073741824) : Got ns.length (drawF [.scr ns, .obj 0, .int m]) fun d => ∃ v, d = .int v ∧ 0 ≤ v ∧ v < m := fun g hg => by
  obtain ⟨v, g', e, h1, h2, h3⟩ := draw_ok hl m0 m1 hg
  exact ⟨.int v, g', e, ⟨v, rfl, h1, h2⟩, h3⟩
/-! ### comprehensions -/
theorem got_noex {α : Type} {m : M α} {Q : α → Prop} (h : Got len m Q) : Got len (M.noex m) Q := fun g hg => by
  obtain ⟨a, g1, e1, pa, hg1⟩ := h g hg
  exact ⟨a, g1, noex_ok e1, pa, hg1⟩
theorem got_compL {tg : Tg} {test : List Sl → M Bool} {elt : List Sl → M D} (T : D → Prop) (P : D → D → Prop) : ∀ items : List D, (∀ d ∈ items, ∃ σ', put tg d σ = some σ' ∧ Got len (test σ') (fun t => t = true → T d) ∧ (T d → Got len (elt σ') (P d))) →
    Got len (compL tg test elt σ items) fun ds => ∃ ks : List D, ks.Sublist items ∧ (∀ k ∈ ks, T k) ∧ ds.length = ks.length ∧ ∀ (i : Nat) k d, ks[i]? = some k → ds[i]? = some d → P k d
  | [], _ => .pure ⟨[], .slnil, by simp, rfl, by simp⟩
  | d :: r, h => by
    obtain ⟨σ', h1, h2, h3⟩ := h d List.mem_cons_self
    have ih := got_compL T P r fun x hx => h x (List.mem_cons_of_mem _ hx)
    unfold compL
    rw [h1]
    show Got len (M.bind (test σ') _) _
    refine h2.bind fun t ht => ?_
    cases t with
    | false => exact ih.imp fun ds ⟨ks, a, b, c, e⟩ => ⟨ks, a.cons _, b, c, e⟩
    | true =>
      refine (h3 (ht rfl)).bind fun x px => ih.bind fun xs ⟨ks, a, b, c, e⟩ => .pure ⟨d :: ks, a.cons_cons _, fun k hk => ?_, by rw [List.length_cons, List.length_cons, c], fun i k y hi hy => ?_⟩
      · rcases List.mem_cons.mp hk with rfl | hk
        · exact ht rfl
        · exact b k hk
      · cases i with
        | zero =>
          simp at hi hy
          subst hi hy
          exact px
        | succ i => exact e i k y (by simpa using hi) (by simpa using hy)
/-! ### loops -/
theorem got_loop {body : List Sl → M Flow'} {tg : Tg} {tmp : List Nat} (I : Nat → List Sl → Prop) : ∀ (items : List D) (k : Nat) (σ : List Sl), I k σ → (∀ (i : Nat) d σ, items[i]? = some d → I (k + i) σ → ∃ σ1, put tg d σ = some σ1 ∧ Got len (body σ1) (fun f => ∃ σ2, f = .next σ2 ∧ I (k + i + 1) (clear tmp σ2))) →
    Got len (loopF body tg tmp items σ) fun f => ∃ σ', f = .next σ' ∧ I (k + items.length) σ'
  | [], k, σ, h0, _ => .pure ⟨σ, rfl, h0⟩
  | d :: r, k, σ, h0, h => by
    obtain ⟨σ1, h1, h2⟩ := h 0 d σ rfl h0
    unfold loopF
    rw [h1]
    show Got len (M.bind (body σ1) _) _
    refine h2.bind fun f hf => ?_
    obtain ⟨σ2, rfl, h3⟩ := hf
    have := got_loop (body := body) (tg := tg) (tmp := tmp) I r (k + 1) (clear tmp σ2) h3 fun i x σ hi hI => by
      have := h (i + 1) x σ (by simpa using hi) (by rw [show k + (i + 1) = k + 1 + i by omega]; exact hI)
      rw [show k + (i + 1) + 1 = k + 1 + i + 1 by omega] at this
      exact this
    rw [show k + 1 + r.length = k + (d :: r).length by rw [List.length_cons]; omega] at this
    exact this
/-! ### statements -/
theorem got_cons {s : S} {r : List S} {P : List Sl → Prop} {Q : Flow' → Prop} (h : Got len (ex Φ fuel s σ) fun f => ∃ σ', f = .next σ' ∧ P σ') (h2 : ∀ σ', P σ' → Got len (exs Φ fuel r σ') Q) : Got len (exs Φ fuel (s :: r) σ) Q := by
  refine Got.eq (h.bind (f := fun f => match f with
    | .next σ' => exs Φ fuel r σ'
    | f => M.pure f) (Q := Q) fun f hf => ?_) (by rw [exs] <;> rfl)
  obtain ⟨σ', rfl, p⟩ := hf
  exact h2 σ' p
theorem got_asg {tg : Tg} {e : E} {r : List S} {P : D → Prop} {Q : Flow' → Prop} (h : Got len (ev Φ e σ) P) (h2 : ∀ d, P d → ∃ σ', put tg d σ = some σ' ∧ Got len (exs Φ fuel r σ') Q) : Got len (exs Φ fuel (.asg tg e :: r) σ) Q := by
  refine got_cons (P := fun σ' => ∃ d, P d ∧ put tg d σ = some σ') ?_ fun σ' ⟨d, pd, hp⟩ => ?_
  · refine Got.eq (h.bind (f := fun d => M.bind (M.opt (put tg d σ)) fun σ' => M.pure (.next σ')) fun d pd => ?_) (by rw [ex])
    obtain ⟨σ', hp, _⟩ := h2 d pd
    rw [hp]
    exact .pure ⟨σ', rfl, d, pd, hp⟩
  · obtain ⟨σ'', hp', hq⟩ := h2 d pd
    rw [hp] at hp'
    cases hp'
    exact hq
theorem got_ret {e : E} {r : List S} {P : D → Prop} (h : Got len (ev Φ e σ) P) : Got len (exs Φ fuel (.ret e :: r) σ) fun f => ∃ d, f = .ret d ∧ P d := by
  have h1 : Got len (ex Φ fuel (.ret e) σ) fun f => ∃ d, f = .ret d ∧ P d := Got.eq (h.bind (f := fun d => M.pure (Flow'.ret d)) fun d pd => .pure ⟨d, rfl, pd⟩) (by rw [ex])
  refine Got.eq (h1.bind (f := fun f => match f with
    | .next σ' => exs Φ fuel r σ'
    | f => M.pure f) fun f hf => ?_) (by rw [exs] <;> rfl)
  obtain ⟨d, rfl, p⟩ := hf
  exact .pure ⟨d, rfl, p⟩
theorem got_body {b : List S} {k : Nat} {as : List D} {P : D → Prop} (h : Got len (exs Φ fuel b (as.map Sl.imm ++ List.replicate k .un)) fun f => ∃ d, f = .ret d ∧ P d) : Got len (body Φ fuel b k as) P := by
  unfold body
  refine h.bind fun f hf => ?_
  obtain ⟨d, rfl, p⟩ := hf
  exact .pure p
theorem got_call {f : Nat} {es : List E} {ds : List D} {P : D → Prop} (h : ∀ g, evs Φ es σ g = some (.ok ds, g)) (h2 : Got len (Φ f ds) P) : Got len (ev Φ (.call f es) σ) P :=
  Got.eq ((Got.of (Q := fun x => x = ds) h rfl).bind (f := fun ds => Φ f ds) fun x hx => by subst hx; exact h2) (by rw [ev])
theorem got_ife {c a b : E} {P : Bool → Prop} {Q : D → Prop} (h : Got len (ev Φ c σ) fun d => ∃ t, d = .bl t ∧ P t) (ha : P true → Got len (ev Φ a σ) Q) (hb : P false → Got len (ev Φ b σ) Q) : Got len (ev Φ (.ife c a b) σ) Q := by
  refine Got.eq (h.bind (f := fun x => M.bind (M.opt (truth x)) fun t => match t with
    | true => ev Φ a σ
    | false => ev Φ b σ) fun d hd => ?_) (by rw [ev] <;> rfl)
  obtain ⟨t, rfl, p⟩ := hd
  cases t with
  | true => exact ha p
  | false => exact hb p
theorem got_op {o : Op2} {a b : E} {P Q : D → Prop} {R' : D → Prop} (h1 : Got len (ev Φ a σ) P) (h2 : Got len (ev Φ b σ) Q) (h3 : ∀ x y, P x → Q y → ∃ z, opD o x y = some z ∧ R' z) : Got len (ev Φ (.op o a b) σ) R' := by
  refine Got.eq (h1.bind (f := fun x => M.bind (ev Φ b σ) fun y => M.opt (opD o x y)) fun x px => h2.bind fun y py => ?_) (by rw [ev])
  obtain ⟨z, e, r⟩ := h3 x y px py
  exact .opt e r
theorem got_cst {d : D} : Got len (ev Φ (.cst d) σ) fun x => x = d := .of (fun g => by rw [ev]; rfl) rfl
theorem got_comp {elt : E} {tg : Tg} {own : List Nat} {it : It} {cs : List E} {items : List D} {Q : List D → Prop} (h1 : Got len (evi Φ it σ) fun x => x = items) (h2 : Got len (compL tg (fun σ' => evt Φ cs σ') (fun σ' => ev Φ elt σ') (clear own σ) items) Q) : Got len (ev Φ (.comp elt tg own it cs) σ) fun d => ∃ l, d = .lst l ∧ Q l := by
  refine Got.eq (h1.bind (f := fun items => M.bind (M.noex (compL tg (fun σ' => evt Φ cs σ') (fun σ' => ev Φ elt σ') (clear own σ) items)) fun ds => M.pure (.lst ds)) fun x hx => ?_) (by rw [ev])
  subst hx
  exact (got_noex h2).bind fun l ql => .pure ⟨l, rfl, ql⟩
theorem got_prim1 {p : Pr} {e : E} {P Q : D → Prop} (h : Got len (ev Φ e σ) P) (h2 : ∀ d, P d → ∃ z, prD p [d] = some z ∧ Q z) : Got len (ev Φ (.prim p [e]) σ) Q := by
  have h1 : Got len (evs Φ [e] σ) fun ds => ∃ d, ds = [d] ∧ P d := Got.eq (h.bind (f := fun d => M.bind (M.pure []) fun ds => M.pure (d :: ds)) fun d pd => .pure ⟨d, rfl, pd⟩) (by rw [evs, evs])
  refine Got.eq (h1.bind (f := fun ds => M.opt (prD p ds)) fun ds hd => ?_) (by rw [ev])
  obtain ⟨d, rfl, pd⟩ := hd
  obtain ⟨z, e, q⟩ := h2 d pd
  exact .opt e q
theorem got_nil : Got len (evs Φ [] σ) fun ds => ds = [] := .of (fun g => by rw [evs]; rfl) rfl
theorem got_evs {e : E} {es : List E} {P : D → Prop} {Q : List D → Prop} (h : Got len (ev Φ e σ) P) (h2 : Got len (evs Φ es σ) Q) : Got len (evs Φ (e :: es) σ) fun ds => ∃ d r, ds = d :: r ∧ P d ∧ Q r :=
  Got.eq (h.bind (f := fun d => M.bind (evs Φ es σ) fun ds => M.pure (d :: ds)) fun d pd => h2.bind fun r qr => .pure ⟨d, r, rfl, pd, qr⟩) (by rw [evs])
theorem got_tup {es : List E} {Q : List D → Prop} (h : Got len (evs Φ es σ) Q) : Got len (ev Φ (.tup es) σ) fun d => ∃ ds, d = .tup ds ∧ Q ds :=
  Got.eq (h.bind (f := fun ds => M.pure (.tup ds)) fun ds q => .pure ⟨ds, rfl, q⟩) (by rw [ev])
theorem got_lst {es : List E} {Q : List D → Prop} (h : Got len (evs Φ es σ) Q) : Got len (ev Φ (.lst es) σ) fun d => ∃ ds, d = .lst ds ∧ Q ds :=
  Got.eq (h.bind (f := fun ds => M.pure (.lst ds)) fun ds q => .pure ⟨ds, rfl, q⟩) (by rw [ev])
theorem got_idx {a b : E} {P Q R' : D → Prop} (h1 : Got len (ev Φ a σ) P) (h2 : Got len (ev Φ b σ) Q) (h3 : ∀ x y, P x → Q y → ∃ z, ixOf x y = some z ∧ R' z) : Got len (ev Φ (.idx a b) σ) R' := by
  refine Got.eq (h1.bind (f := fun x => M.bind (ev Φ b σ) fun y => M.opt (ixOf x y)) fun x px => h2.bind fun y py => ?_) (by rw [ev])
  obtain ⟨z, e, r⟩ := h3 x y px py
  exact .opt e r
/-- an expression that draws nothing -/
theorem got_e {e : E} {d : D} (h : ∀ g, ev Φ e σ g = some (.ok d, g)) : Got len (ev Φ e σ) fun x => x = d := .of h rfl
theorem got_app {i : Nat} {e : E} {l : List D} {P : D → Prop} (hs : slot σ i = .ml l) (hl : l.length < sizeLine) (h : Got len (ev Φ e σ) P) : Got len (exs Φ fuel [.app i e] σ) fun f => ∃ d, f = .next (σ.set i (.ml (l ++ [d]))) ∧ P d := fun g hg => by
  obtain ⟨d, g1, e1, pd, hg1⟩ := h g hg
  refine ⟨_, g1, ?_, ⟨d, rfl, pd⟩, hg1⟩
  rw [exs_app hs e1 hl]
  exact exs_nil
/-- for -/
theorem got_for {tg : Tg} {it : It} {b : List S} {tmp : List Nat} {items : List D} {Q : Flow' → Prop} (h1 : Got len (evi Φ it σ) fun x => x = items) (h2 : Got len (loopF (fun σ' => exs Φ fuel b σ') tg tmp items σ) Q) : Got len (ex Φ fuel (.forr tg it b tmp) σ) Q :=
  Got.eq (h1.bind (f := fun items => loopF (fun σ' => exs Φ fuel b σ') tg tmp items σ) fun x hx => by subst hx; exact h2) (by rw [ex])
theorem got_comp' {elt : E} {tg : Tg} {own : List Nat} {it : It} {cs : List E} {P Q : List D → Prop} (h1 : Got len (evi Φ it σ) P) (h2 : ∀ items, P items → Got len (compL tg (fun σ' => evt Φ cs σ') (fun σ' => ev Φ elt σ') (clear own σ) items) Q) : Got len (ev Φ (.comp elt tg own it cs) σ) fun d => ∃ l, d = .lst l ∧ Q l := by
  refine Got.eq (h1.bind (f := fun items => M.bind (M.noex (compL tg (fun σ' => evt Φ cs σ') (fun σ' => ev Φ elt σ') (clear own σ) items)) fun ds => M.pure (.lst ds)) fun x hx => ?_) (by rw [ev])
  exact (got_noex (h2 x hx)).bind fun l ql => .pure ⟨l, rfl, ql⟩
theorem got_rng1 {e : E} {lo hi : Int} (h : Got len (ev Φ e σ) fun d => ∃ v, d = .int v ∧ lo ≤ v ∧ v < hi) (h0 : 0 ≤ lo) (h1 : hi ≤ 1000) : Got len (evi Φ (.rng [e]) σ) fun items => ∃ v, items = rangeD 0 v ∧ lo ≤ v ∧ v < hi := by
  refine Got.eq ((got_evs h got_nil).bind (f := fun ds => M.opt (walkR ds)) fun ds ⟨d, r, hds, ⟨v, hd, v0, v1⟩, hr⟩ => ?_) (by rw [evi])
  subst hds hd hr
  refine .opt (a := rangeD 0 v) ?_ ⟨v, rfl, v0, v1⟩
  show (if -lim62 ≤ v ∧ v < lim62 ∧ v ≤ 16777216 then some (rangeD 0 v) else none) = _
  rw [if_pos (by unfold lim62; omega)]
theorem range_len (lo hi : Int) : (rangeD lo hi).length = (hi - lo).toNat := by
  unfold rangeD
  rw [List.length_map, List.length_range]
theorem got_for' {tg : Tg} {it : It} {b : List S} {tmp : List Nat} {P : List D → Prop} {Q : Flow' → Prop} (h1 : Got len (evi Φ it σ) P) (h2 : ∀ items, P items → Got len (loopF (fun σ' => exs Φ fuel b σ') tg tmp items σ) Q) : Got len (ex Φ fuel (.forr tg it b tmp) σ) Q :=
  Got.eq (h1.bind (f := fun items => loopF (fun σ' => exs Φ fuel b σ') tg tmp items σ) h2) (by rw [ex])
/-- xs[k] += v -/
theorem got_augix {i : Nat} {k v : E} {l : List D} {K V : Int → Prop} (hs : slot σ i = .ml l) (hk : Got len (ev Φ k σ) fun d => ∃ n, d = .int n ∧ K n) (hv : Got len (ev Φ v σ) fun d => ∃ b, d = .int b ∧ V b) (hj : ∀ n, K n → ∃ j a, ixN l.length n = some j ∧ l[j]? = some (.int a)) :
    Got len (exs Φ fuel [.augix i .add k v] σ) fun f => ∃ n j a b, K n ∧ V b ∧ ixN l.length n = some j ∧ l[j]? = some (.int a) ∧ f = .next (σ.set i (.ml (l.set j (.int (a + b))))) := fun g hg => by
  obtain ⟨d, g1, e1, ⟨n, rfl, kn⟩, hg1⟩ := hk g hg
  obtain ⟨d2, g2, e2, ⟨b, rfl, vb⟩, hg2⟩ := hv g1 hg1
  obtain ⟨j, a, hj1, hj2⟩ := hj n kn
  refine ⟨_, g2, ?_, ⟨n, j, a, b, kn, vb, hj1, hj2, rfl⟩, hg2⟩
  have h0 : mlS σ i g = some (.ok l, g) := by
    unfold mlS
    rw [hs]
    rfl
  have h1 : getS σ i (.int n) g1 = some (.ok (.int a), g1) := by
    unfold getS
    rw [hs]
    show M.opt (atI l n) g1 = _
    unfold atI
    rw [hj1]
    show M.opt (l[j]?) g1 = _
    rw [hj2]
    rfl
  have h2 : ex Φ fuel (.augix i .add k v) σ g = some (.ok (.next (σ.set i (.ml (l.set j (.int (a + b)))))), g2) := by
    rw [ex, bind_ok h0, bind_ok e1, bind_ok h1, bind_ok e2, bind_ok (a := .int (a + b)) (g1 := g2) rfl]
    unfold setS
    rw [hs]
    show (match ixN l.length n with
      | some j => M.pure (Flow'.next (σ.set i (.ml (l.set j (D.int (a + b))))))
      | none => M.fail) g2 = _
    rw [hj1]
    rfl
  rw [exs_cons h2]
  exact exs_nil
end
end MC
/-! law_k01_not_protocols: 30 defs; kw [(7, 0, ('value',), (0,)), (23, 1, ('value',), (0, 1)), (25, 1, ('value',), (0, 1)), (27, 1, ('value',), (0, 1))]; ex ['InvalidProtocol'] -/
namespace K01
open PySem PySem.Spec L2 MC
def top (i : Nat) : Stmt := PySem.Challenge.pw_manycaches_k01_not_protocols.main.body.getD i (.Pass ⟨0, 0, 0, 0⟩)
def fnm_0 : List Str := ["_law_begun", "_law_draw", "_law_is", "is_between", "are_between", "is_ascending", "is_rule", "is_protocol", "_law_bounds", "_law_rule", "_law_protocol", "_law_spoilt", "_law_spoilt", "_law_spoilt", "_law_spoilt", "_law_spoilt", "_law_spoilt", "_law_spoilt", "_law_pattern", "check_protocol"]
def fnm_1 : List Str := ["is_count", "are_counts", "is_configuration_of", "is_configuration", "is_pattern_of", "is_pattern", "is_log_of", "is_log", "_law_counts", "law"]
def fnm : List Str := fnm_0 ++ fnm_1
def far_0 : List Nat := [0, 3, 2, 3, 3, 1, 2, 1, 0, 3, 4, 1, 1, 1, 1, 1, 1, 1, 4, 1]
def far_1 : List Nat := [1, 2, 2, 2, 2, 2, 2, 2, 2, 1]
def far : List Nat := far_0 ++ far_1
def T : Tab := ⟨fun i => fnm.getD i "", fun i => far.getD i 0, ["all", "bool", "enumerate", "int", "isinstance", "len", "list", "range", "sum", "tuple", "zip"], [("CACHES", 8), ("RULES", 8)], [(7, 0, ["value"], [0]), (23, 1, ["value"], [0, 1]), (25, 1, ["value"], [0, 1]), (27, 1, ["value"], [0, 1])], ["InvalidProtocol"]⟩
def fuel : Nat := 16777216
/-- _law_is -/
def N2 : List Str := ["result", "expected"]
def b2 : List S := [.ret (.and [.isi (.var 0) .bool, .op .eq (.var 0) (.var 1)])]
/-- is_between -/
def N3 : List Str := ["value", "low", "high"]
def b3 : List S := [.ret (.and [.isi (.var 0) .int, .not (.isi (.var 0) .bool), .chn .le .le (.var 1) (.var 0) (.var 2)])]
/-- are_between -/
def N4 : List Str := ["values", "low", "high", "one"]
def b4 : List S := [.ret (.and [.isi (.var 0) .tuple, .prim .all [.comp (.call 3 [.var 3, .var 1, .var 2]) (.n 3) [3] (.e (.var 0)) []]])]
/-- is_ascending -/
def N5 : List Str := ["values", "one", "other"]
def b5 : List S := [.ret (.prim .all [.comp (.op .lt (.var 1) (.var 2)) (.t [.n 1, .n 2]) [1, 2] (.zip (.var 0) (.slc (.var 0) (some (.cst (.int 1))) none)) []])]
/-- is_rule -/
def N6 : List Str := ["many", "value", "source", "target", "need", "bars", "effects"]
def b6 : List S := [.ife (.or [.not (.isi (.var 1) .tuple), .op .ne (.prim .len [.var 1]) (.cst (.int 5)), .not (.call 4 [.slc (.var 1) none (some (.cst (.int 3))), .cst (.int 0), .op .sub (.var 0) (.cst (.int 1))])]) [.ret (.cst (.bl false))] [], .asg (.t [.n 2, .n 3, .n 4, .n 5, .n 6]) (.var 1), .ife (.or [.not (.call 4 [.var 5, .cst (.int 1), .op .sub (.var 0) (.cst (.int 1))]), .not (.call 5 [.var 5]), .op .mem (.var 4) (.var 5)]) [.ret (.cst (.bl false))] [], .ret (.and [.call 4 [.var 6, .cst (.int 0), .op .sub (.var 0) (.cst (.int 1))], .op .eq (.prim .len [.var 6]) (.var 0), .op .eq (.idx (.var 6) (.cst (.int 0))) (.cst (.int 0))])]
/-- is_protocol -/
def N7 : List Str := ["value", "many", "rules", "one"]
def b7 : List S := [.ife (.or [.not (.isi (.var 0) .tuple), .op .ne (.prim .len [.var 0]) (.cst (.int 2)), .not (.call 3 [.idx (.var 0) (.cst (.int 0)), .cst (.int 2), .cst (.int 5)])]) [.ret (.cst (.bl false))] [], .asg (.t [.n 1, .n 2]) (.var 0), .ret (.and [.isi (.var 2) .tuple, .op .le (.prim .len [.var 2]) (.con "RULES" 8), .prim .all [.comp (.call 6 [.var 1, .var 3]) (.n 3) [3] (.e (.var 2)) []]])]
/-- _law_bounds -/
def N8 : List Str := ["rule", "good", "bad", "one"]
def b8 : List S := [.asg (.n 0) (.tup [.cst (.int 0), .cst (.int 1), .cst (.int 0), .tup [], .tup [.cst (.int 0), .cst (.int 1)]]), .asg (.n 1) (.lst [.tup [.cst (.int 2), .tup []], .tup [.cst (.int 5), .tup []], .tup [.cst (.int 2), .op .mul (.tup [.var 0]) (.cst (.int 8))], .tup [.cst (.int 2), .tup [.tup [.cst (.int 1), .cst (.int 0), .cst (.int 1), .tup [], .tup [.cst (.int 0), .cst (.int 0)]]]], .tup [.cst (.int 3), .tup [.tup [.cst (.int 0), .cst (.int 0), .cst (.int 1), .tup [.cst (.int 2)], .tup [.cst (.int 0), .cst (.int 0), .cst (.int 0)]]]]]), .asg (.n 2) (.lst [.tup [.cst (.int 1), .tup []], .tup [.cst (.int 6), .tup []], .tup [.cst (.int 2), .op .mul (.tup [.var 0]) (.cst (.int 9))], .tup [.cst (.int 2), .tup [.tup [.cst (.int 0), .cst (.int 2), .cst (.int 0), .tup [], .tup [.cst (.int 0), .cst (.int 1)]]]], .tup [.cst (.int 2), .tup [.tup [.cst (.int 0), .cst (.int 1), .cst (.int 0), .tup [.cst (.int 0)], .tup [.cst (.int 0), .cst (.int 1)]]]], .cst .non]), .asg (.n 2) (.op .add (.var 2) (.lst [.tup [.cst (.int 2), .tup [.tup [.cst (.int 0), .cst (.int 1), .cst (.int 1), .tup [.cst (.int 1)], .tup [.cst (.int 0), .cst (.int 1)]]]], .tup [.cst (.int 2), .tup [.tup [.cst (.int 0), .cst (.int 1), .cst (.int 0), .tup [], .tup [.cst (.int 1), .cst (.int 1)]]]], .tup [.cst (.int 2), .tup [.tup [.cst (.int 0), .cst (.int 1), .cst (.int 0), .tup [], .tup [.cst (.int 0)]]]], .tup []])), .asg (.n 2) (.op .add (.var 2) (.lst [.tup [.cst (.int 3), .tup [.tup [.cst (.int 0), .cst (.int 1), .cst (.int 0), .tup [.cst (.int 2), .cst (.int 1)], .tup [.cst (.int 0), .cst (.int 1), .cst (.int 1)]]]], .tup [.cst (.int 3), .tup [.tup [.cst (.int 0), .cst (.int 1), .cst (.int 0), .tup [.cst (.int 1), .cst (.int 1)], .tup [.cst (.int 0), .cst (.int 1), .cst (.int 1)]]]], .tup [.cst (.int 2), .lst [.var 0]], .tup [.cst (.bl true), .tup []]])), .ife (.op .ne (.comp (.var 3) (.n 3) [3] (.e (.var 1)) [.not (.call 2 [.call 7 [.var 3], .cst (.bl true)])]) (.lst [])) [.ret (.cst (.bl false))] [], .ret (.op .eq (.comp (.var 3) (.n 3) [3] (.e (.var 2)) [.not (.call 2 [.call 7 [.var 3], .cst (.bl false)])]) (.lst []))]
/-- _law_rule -/
def N9 : List Str := ["script", "town", "many", "source", "target", "need", "bars", "effects", "state"]
def b9 : List S := [.asg (.n 3) (.ife (.op .eq (.call 1 [.var 0, .var 1, .cst (.int 2)]) (.cst (.int 0))) (.call 1 [.var 0, .var 1, .var 2]) (.cst (.int 0))), .asg (.n 4) (.call 1 [.var 0, .var 1, .var 2]), .asg (.n 5) (.ife (.op .eq (.call 1 [.var 0, .var 1, .cst (.int 3)]) (.cst (.int 0))) (.call 1 [.var 0, .var 1, .var 2]) (.cst (.int 0))), .asg (.n 6) (.prim .tuple [.comp (.var 8) (.n 8) [8] (.rng [.cst (.int 1), .var 2]) [.and [.op .eq (.call 1 [.var 0, .var 1, .cst (.int 5)]) (.cst (.int 0)), .op .ne (.var 8) (.var 5)]]]), .new 7 (.lst [.cst (.int 0)]), .forr (.n 8) (.rng [.cst (.int 1), .var 2]) [.app 7 (.idx (.tup [.var 8, .cst (.int 0), .call 1 [.var 0, .var 1, .var 2]]) (.call 1 [.var 0, .var 1, .cst (.int 3)]))] [], .fz 7, .ret (.tup [.var 3, .var 4, .var 5, .var 6, .prim .tuple [.var 7]])]
/-- _law_protocol -/
def N10 : List Str := ["script", "town", "states", "rules", "many", "k"]
def b10 : List S := [.asg (.n 4) (.op .add (.cst (.int 2)) (.call 1 [.var 0, .var 1, .op .sub (.var 2) (.cst (.int 1))])), .ret (.tup [.var 4, .prim .tuple [.comp (.call 9 [.var 0, .var 1, .var 4]) (.n 5) [5] (.rng [.call 1 [.var 0, .var 1, .op .add (.var 3) (.cst (.int 1))]]) []]])]
/-- _law_spoilt -/
def N12 : List Str := ["value_here", "found", "place", "one", "odd"]
def b12 : List S := [.new 1 (.lst []), .ife (.not (.isi (.var 0) .tuple)) [.fz 1, .ret (.var 1)] [], .forr (.t [.n 2, .n 3]) (.enum (.var 0)) [.forr (.n 4) (.e (.op .add (.lst [.cst .non, .tup [.cst (.str "x")], .neg (.cst (.int 1)), .cst (.int 9), .lst [], .cst (.bl true)]) (.call 11 [.var 3]))) [.app 1 (.op .add (.op .add (.slc (.var 0) none (some (.var 2))) (.tup [.var 4])) (.slc (.var 0) (some (.op .add (.var 2) (.cst (.int 1)))) none))] []] [], .fz 1, .ret (.op .add (.var 1) (.lst [.prim .list [.var 0], .op .add (.var 0) (.tup [.cst .non])]))]
/-- _law_spoilt -/
def N13 : List Str := ["value_here", "found", "place", "one", "odd"]
def b13 : List S := [.new 1 (.lst []), .ife (.not (.isi (.var 0) .tuple)) [.fz 1, .ret (.var 1)] [], .forr (.t [.n 2, .n 3]) (.enum (.var 0)) [.forr (.n 4) (.e (.op .add (.lst [.cst .non, .tup [.cst (.str "x")], .neg (.cst (.int 1)), .cst (.int 9), .lst [], .cst (.bl true)]) (.call 12 [.var 3]))) [.app 1 (.op .add (.op .add (.slc (.var 0) none (some (.var 2))) (.tup [.var 4])) (.slc (.var 0) (some (.op .add (.var 2) (.cst (.int 1)))) none))] []] [], .fz 1, .ret (.op .add (.var 1) (.lst [.prim .list [.var 0], .op .add (.var 0) (.tup [.cst .non])]))]
/-- _law_spoilt -/
def N14 : List Str := ["value_here", "found", "place", "one", "odd"]
def b14 : List S := [.new 1 (.lst []), .ife (.not (.isi (.var 0) .tuple)) [.fz 1, .ret (.var 1)] [], .forr (.t [.n 2, .n 3]) (.enum (.var 0)) [.forr (.n 4) (.e (.op .add (.lst [.cst .non, .tup [.cst (.str "x")], .neg (.cst (.int 1)), .cst (.int 9), .lst [], .cst (.bl true)]) (.call 13 [.var 3]))) [.app 1 (.op .add (.op .add (.slc (.var 0) none (some (.var 2))) (.tup [.var 4])) (.slc (.var 0) (some (.op .add (.var 2) (.cst (.int 1)))) none))] []] [], .fz 1, .ret (.op .add (.var 1) (.lst [.prim .list [.var 0], .op .add (.var 0) (.tup [.cst .non])]))]
/-- _law_spoilt -/
def N15 : List Str := ["value_here", "found", "place", "one", "odd"]
def b15 : List S := [.new 1 (.lst []), .ife (.not (.isi (.var 0) .tuple)) [.fz 1, .ret (.var 1)] [], .forr (.t [.n 2, .n 3]) (.enum (.var 0)) [.forr (.n 4) (.e (.op .add (.lst [.cst .non, .tup [.cst (.str "x")], .neg (.cst (.int 1)), .cst (.int 9), .lst [], .cst (.bl true)]) (.call 14 [.var 3]))) [.app 1 (.op .add (.op .add (.slc (.var 0) none (some (.var 2))) (.tup [.var 4])) (.slc (.var 0) (some (.op .add (.var 2) (.cst (.int 1)))) none))] []] [], .fz 1, .ret (.op .add (.var 1) (.lst [.prim .list [.var 0], .op .add (.var 0) (.tup [.cst .non])]))]
/-- _law_spoilt -/
def N16 : List Str := ["value_here", "found", "place", "one", "odd"]
def b16 : List S := [.new 1 (.lst []), .ife (.not (.isi (.var 0) .tuple)) [.fz 1, .ret (.var 1)] [], .forr (.t [.n 2, .n 3]) (.enum (.var 0)) [.forr (.n 4) (.e (.op .add (.lst [.cst .non, .tup [.cst (.str "x")], .neg (.cst (.int 1)), .cst (.int 9), .lst [], .cst (.bl true)]) (.call 15 [.var 3]))) [.app 1 (.op .add (.op .add (.slc (.var 0) none (some (.var 2))) (.tup [.var 4])) (.slc (.var 0) (some (.op .add (.var 2) (.cst (.int 1)))) none))] []] [], .fz 1, .ret (.op .add (.var 1) (.lst [.prim .list [.var 0], .op .add (.var 0) (.tup [.cst .non])]))]
/-- _law_spoilt -/
def N17 : List Str := ["value_here", "found", "place", "one", "odd"]
def b17 : List S := [.new 1 (.lst []), .ife (.not (.isi (.var 0) .tuple)) [.fz 1, .ret (.var 1)] [], .forr (.t [.n 2, .n 3]) (.enum (.var 0)) [.forr (.n 4) (.e (.op .add (.lst [.cst .non, .tup [.cst (.str "x")], .neg (.cst (.int 1)), .cst (.int 9), .lst [], .cst (.bl true)]) (.call 16 [.var 3]))) [.app 1 (.op .add (.op .add (.slc (.var 0) none (some (.var 2))) (.tup [.var 4])) (.slc (.var 0) (some (.op .add (.var 2) (.cst (.int 1)))) none))] []] [], .fz 1, .ret (.op .add (.var 1) (.lst [.prim .list [.var 0], .op .add (.var 0) (.tup [.cst .non])]))]
/-- _law_pattern -/
def N18 : List Str := ["script", "town", "many", "most", "counts", "k"]
def b18 : List S := [.new 4 (.op .mul (.lst [.cst (.int 0)]) (.var 2)), .forr (.n 5) (.rng [.op .add (.cst (.int 1)) (.call 1 [.var 0, .var 1, .var 3])]) [.augix 4 .add (.op .add (.cst (.int 1)) (.call 1 [.var 0, .var 1, .op .sub (.var 2) (.cst (.int 1))])) (.cst (.int 1))] [], .fz 4, .ret (.prim .tuple [.var 4])]
/-- check_protocol -/
def N19 : List Str := ["protocol"]
def b19 : List S := [.ife (.not (.call 7 [.var 0])) [.raise "InvalidProtocol"] []]
/-- is_count -/
def N20 : List Str := ["value"]
def b20 : List S := [.ret (.and [.isi (.var 0) .int, .not (.isi (.var 0) .bool), .op .ge (.var 0) (.cst (.int 0))])]
/-- are_counts -/
def N21 : List Str := ["protocol", "value", "one"]
def b21 : List S := [.ret (.and [.isi (.var 1) .tuple, .op .eq (.prim .len [.var 1]) (.idx (.var 0) (.cst (.int 0))), .prim .all [.comp (.call 20 [.var 2]) (.n 2) [2] (.e (.var 1)) []]])]
/-- is_configuration_of -/
def N22 : List Str := ["protocol", "value"]
def b22 : List S := [.ret (.and [.call 21 [.var 0, .var 1], .chn .le .le (.cst (.int 1)) (.prim .sum [.var 1]) (.con "CACHES" 8)])]
/-- is_configuration -/
def N23 : List Str := ["protocol", "value"]
def b23 : List S := [.exp (.call 19 [.var 0]), .ret (.call 22 [.var 0, .var 1])]
/-- is_pattern_of -/
def N24 : List Str := ["protocol", "value"]
def b24 : List S := [.ret (.and [.call 21 [.var 0, .var 1], .op .eq (.idx (.var 1) (.cst (.int 0))) (.cst (.int 0)), .chn .le .le (.cst (.int 1)) (.prim .sum [.var 1]) (.cst (.int 4))])]
/-- is_pattern -/
def N25 : List Str := ["protocol", "value"]
def b25 : List S := [.exp (.call 19 [.var 0]), .ret (.call 24 [.var 0, .var 1])]
/-- is_log_of -/
def N26 : List Str := ["protocol", "value", "one"]
def b26 : List S := [.ife (.or [.not (.isi (.var 1) .tuple), .not (.chn .le .le (.cst (.int 1)) (.prim .len [.var 1]) (.cst (.int 6)))]) [.ret (.cst (.bl false))] [], .ife (.not (.prim .all [.comp (.call 22 [.var 0, .var 2]) (.n 2) [2] (.e (.var 1)) []])) [.ret (.cst (.bl false))] [], .ret (.prim .all [.comp (.op .eq (.prim .sum [.var 2]) (.prim .sum [.idx (.var 1) (.cst (.int 0))])) (.n 2) [2] (.e (.var 1)) []])]
/-- is_log -/
def N27 : List Str := ["protocol", "value"]
def b27 : List S := [.exp (.call 19 [.var 0]), .ret (.call 26 [.var 0, .var 1])]
/-- _law_counts -/
def N28 : List Str := ["protocol", "configuration", "many", "rows", "eight", "nine"]
def b28 : List S := [.asg (.n 2) (.idx (.var 0) (.cst (.int 0))), .par [4, 5] [.op .add (.tup [.cst (.int 8)]) (.op .mul (.tup [.cst (.int 0)]) (.op .sub (.var 2) (.cst (.int 1)))), .op .add (.tup [.cst (.int 0), .cst (.int 9)]) (.op .mul (.tup [.cst (.int 0)]) (.op .sub (.var 2) (.cst (.int 2))))], .new 3 (.lst [.call 23 [.var 0, .var 4], .call 23 [.var 0, .var 5]]), .app 3 (.call 23 [.var 0, .op .mul (.tup [.cst (.int 0)]) (.var 2)]), .app 3 (.call 23 [.var 0, .op .mul (.tup [.cst (.int 1)]) (.op .add (.var 2) (.cst (.int 1)))]), .app 3 (.call 25 [.var 0, .op .add (.tup [.cst (.int 0), .cst (.int 4)]) (.op .mul (.tup [.cst (.int 0)]) (.op .sub (.var 2) (.cst (.int 2))))]), .app 3 (.call 25 [.var 0, .op .add (.tup [.cst (.int 0), .cst (.int 5)]) (.op .mul (.tup [.cst (.int 0)]) (.op .sub (.var 2) (.cst (.int 2))))]), .app 3 (.call 25 [.var 0, .op .mul (.tup [.cst (.int 0)]) (.var 2)]), .app 3 (.call 25 [.var 0, .op .add (.tup [.cst (.int 1), .cst (.int 1)]) (.op .mul (.tup [.cst (.int 0)]) (.op .sub (.var 2) (.cst (.int 2))))]), .fz 3, .new 3 (.op .add (.var 3) (.lst [.call 27 [.var 0, .op .mul (.tup [.var 1]) (.cst (.int 6))], .call 27 [.var 0, .op .mul (.tup [.var 1]) (.cst (.int 7))], .call 27 [.var 0, .tup []]])), .app 3 (.call 27 [.var 0, .tup [.var 4, .op .add (.tup [.cst (.int 7), .cst (.int 0)]) (.op .mul (.tup [.cst (.int 0)]) (.op .sub (.var 2) (.cst (.int 2))))]]), .fz 3, .ret (.op .eq (.var 3) (.lst [.cst (.bl true), .cst (.bl false), .cst (.bl false), .cst (.bl false), .cst (.bl true), .cst (.bl false), .cst (.bl false), .cst (.bl false), .cst (.bl true), .cst (.bl false), .cst (.bl false), .cst (.bl false)]))]
/-- law -/
def N29 : List Str := ["script", "town", "k", "protocol", "odds", "odd", "configuration", "pattern"]
def b29 : List S := [.asg (.n 1) (.call 0 []), .forr (.n 2) (.rng [.cst (.int 3)]) [.asg (.n 3) (.call 10 [.var 0, .var 1, .cst (.int 5), .cst (.int 4)]), .ife (.not (.call 2 [.callk 7 [] [("value", .var 3)] [0], .cst (.bl true)])) [.ret (.cst (.bl false))] [], .new 4 (.comp (.var 5) (.n 5) [5] (.e (.call 17 [.var 3])) [.op .ne (.slc (.var 5) (some (.cst (.int 1))) none) (.slc (.var 3) (some (.cst (.int 1))) none)]), .fz 4, .ife (.op .ne (.comp (.var 5) (.n 5) [5] (.e (.var 4)) [.and [.op .eq (.idx (.var 5) (.cst (.int 0))) (.cst (.int 9)), .not (.call 2 [.call 7 [.var 5], .cst (.bl false)])]]) (.lst [])) [.ret (.cst (.bl false))] [], .forr (.n 5) (.e (.call 17 [.idx (.var 3) (.cst (.int 1))])) [.ife (.not (.call 2 [.call 7 [.tup [.idx (.var 3) (.cst (.int 0)), .var 5]], .cst (.bl false)])) [.ret (.cst (.bl false))] []] [], .asg (.n 6) (.call 18 [.var 0, .var 1, .idx (.var 3) (.cst (.int 0)), .cst (.int 5)]), .forr (.n 5) (.e (.call 17 [.var 6])) [.ife (.and [.op .ne (.slc (.var 5) none (some (.neg (.cst (.int 1))))) (.var 6), .op .nmem (.cst (.int 9)) (.var 5), .not (.call 2 [.call 23 [.var 3, .var 5], .cst (.bl false)])]) [.ret (.cst (.bl false))] []] [], .ife (.not (.call 2 [.callk 23 [.var 3] [("value", .var 6)] [0, 1], .cst (.bl true)])) [.ret (.cst (.bl false))] [], .asg (.n 7) (.call 18 [.var 0, .var 1, .idx (.var 3) (.cst (.int 0)), .cst (.int 4)]), .ife (.not (.call 2 [.callk 25 [.var 3] [("value", .var 7)] [0, 1], .cst (.bl true)])) [.ret (.cst (.bl false))] [], .ife (.not (.call 2 [.callk 27 [.var 3] [("value", .tup [.var 7])] [0, 1], .cst (.bl true)])) [.ret (.cst (.bl false))] [], .forr (.n 5) (.e (.tup [.cst .non, .prim .list [.var 7], .slc (.var 7) (some (.cst (.int 1))) none, .op .add (.var 7) (.tup [.cst (.int 0)]), .op .add (.tup [.cst (.int 0)]) (.op .mul (.tup [.cst .non]) (.op .sub (.idx (.var 3) (.cst (.int 0))) (.cst (.int 1))))])) [.ife (.or [.not (.call 2 [.call 25 [.var 3, .var 5], .cst (.bl false)]), .not (.call 2 [.call 27 [.var 3, .var 5], .cst (.bl false)])]) [.ret (.cst (.bl false))] []] [], .ife (.not (.call 28 [.var 3, .var 6])) [.ret (.cst (.bl false))] []] [], .ret (.call 8 [])]
def FL_0 : List (Ph → List D → M D) := [fun _ => begunF, fun _ => drawF, fun Φ as => body Φ fuel b2 0 as, fun Φ as => body Φ fuel b3 0 as, fun Φ as => body Φ fuel b4 1 as, fun Φ as => body Φ fuel b5 2 as, fun Φ as => body Φ fuel b6 5 as, fun Φ as => body Φ fuel b7 3 as, fun Φ as => body Φ fuel b8 4 as, fun Φ as => body Φ fuel b9 6 as, fun Φ as => body Φ fuel b10 2 as, fun _ _ => M.fail, fun Φ as => body Φ fuel b12 4 as, fun Φ as => body Φ fuel b13 4 as, fun Φ as => body Φ fuel b14 4 as, fun Φ as => body Φ fuel b15 4 as, fun Φ as => body Φ fuel b16 4 as, fun Φ as => body Φ fuel b17 4 as, fun Φ as => body Φ fuel b18 2 as, fun Φ as => body Φ fuel b19 0 as]
def FL_1 : List (Ph → List D → M D) := [fun Φ as => body Φ fuel b20 0 as, fun Φ as => body Φ fuel b21 1 as, fun Φ as => body Φ fuel b22 0 as, fun Φ as => body Φ fuel b23 0 as, fun Φ as => body Φ fuel b24 0 as, fun Φ as => body Φ fuel b25 0 as, fun Φ as => body Φ fuel b26 1 as, fun Φ as => body Φ fuel b27 0 as, fun Φ as => body Φ fuel b28 4 as, fun Φ as => body Φ fuel b29 7 as]
def FL : List (Ph → List D → M D) := FL_0 ++ FL_1
def F (n : Nat) : Ph → List D → M D := FL.getD n fun _ _ => M.fail
abbrev Φ : Ph := Phi F
theorem c2 : chkSs T ⟨N2, defScope (top 24), fun _ => true, 2⟩ b2 (defBody (top 24)) = true := by decide +kernel
theorem c3 : chkSs T ⟨N3, defScope (top 6), fun _ => true, 3⟩ b3 (defBody (top 6)) = true := by decide +kernel
theorem c4 : chkSs T ⟨N4, defScope (top 7), fun _ => true, 4⟩ b4 (defBody (top 7)) = true := by decide +kernel
theorem c5 : chkSs T ⟨N5, defScope (top 8), fun _ => true, 5⟩ b5 (defBody (top 8)) = true := by decide +kernel
theorem c6 : chkSs T ⟨N6, defScope (top 9), fun _ => true, 6⟩ b6 (defBody (top 9)) = true := by decide +kernel
theorem c7 : chkSs T ⟨N7, defScope (top 10), fun _ => true, 7⟩ b7 (defBody (top 10)) = true := by decide +kernel
theorem c8 : chkSs T ⟨N8, defScope (top 31), fun _ => true, 8⟩ b8 (defBody (top 31)) = true := by decide +kernel
theorem c9 : chkSs T ⟨N9, defScope (top 27), fun _ => true, 9⟩ b9 (defBody (top 27)) = true := by decide +kernel
theorem c10 : chkSs T ⟨N10, defScope (top 28), fun _ => true, 10⟩ b10 (defBody (top 28)) = true := by decide +kernel
theorem c12 : chkSs T ⟨N12, defScope (top 30), fun _ => true, 12⟩ b12 (defBody (top 30)) = true := by decide +kernel
theorem c13 : chkSs T ⟨N13, defScope (top 30), fun _ => true, 13⟩ b13 (defBody (top 30)) = true := by decide +kernel
theorem c14 : chkSs T ⟨N14, defScope (top 30), fun _ => true, 14⟩ b14 (defBody (top 30)) = true := by decide +kernel
theorem c15 : chkSs T ⟨N15, defScope (top 30), fun _ => true, 15⟩ b15 (defBody (top 30)) = true := by decide +kernel
theorem c16 : chkSs T ⟨N16, defScope (top 30), fun _ => true, 16⟩ b16 (defBody (top 30)) = true := by decide +kernel
theorem c17 : chkSs T ⟨N17, defScope (top 30), fun _ => true, 17⟩ b17 (defBody (top 30)) = true := by decide +kernel
theorem c18 : chkSs T ⟨N18, defScope (top 29), fun _ => true, 18⟩ b18 (defBody (top 29)) = true := by decide +kernel
theorem c19 : chkSs T ⟨N19, defScope (top 11), fun _ => true, 19⟩ b19 (defBody (top 11)) = true := by decide +kernel
theorem c20 : chkSs T ⟨N20, defScope (top 13), fun _ => true, 20⟩ b20 (defBody (top 13)) = true := by decide +kernel
theorem c21 : chkSs T ⟨N21, defScope (top 12), fun _ => true, 21⟩ b21 (defBody (top 12)) = true := by decide +kernel
theorem c22 : chkSs T ⟨N22, defScope (top 14), fun _ => true, 22⟩ b22 (defBody (top 14)) = true := by decide +kernel
theorem c23 : chkSs T ⟨N23, defScope (top 15), fun _ => true, 23⟩ b23 (defBody (top 15)) = true := by decide +kernel
theorem c24 : chkSs T ⟨N24, defScope (top 20), fun _ => true, 24⟩ b24 (defBody (top 20)) = true := by decide +kernel
theorem c25 : chkSs T ⟨N25, defScope (top 22), fun _ => true, 25⟩ b25 (defBody (top 22)) = true := by decide +kernel
theorem c26 : chkSs T ⟨N26, defScope (top 17), fun _ => true, 26⟩ b26 (defBody (top 17)) = true := by decide +kernel
theorem c27 : chkSs T ⟨N27, defScope (top 18), fun _ => true, 27⟩ b27 (defBody (top 18)) = true := by decide +kernel
theorem c28 : chkSs T ⟨N28, defScope (top 32), fun _ => true, 28⟩ b28 (defBody (top 32)) = true := by decide +kernel
theorem c29 : chkSs T ⟨N29, defScope (top 33), fun _ => true, 29⟩ b29 (defBody (top 33)) = true := by decide +kernel
end K01
namespace K01
open PySem PySem.Spec L2 MC
def plain : D → Bool
  | .non => true
  | .bl _ => true
  | .int _ => true
  | .str _ => true
  | .tup _ => true
  | .lst _ => true
  | _ => false
theorem gd_plain {n : Nat} {d : D} (h : gd n d = true) : plain d = true := by
  cases d <;> first | rfl | (cases n <;> (unfold gd at h; cases h))
theorem gds_mem : ∀ {n : Nat} {l : List D} {d : D}, gds n l = true → d ∈ l → gd n d = true
  | n, x :: l, d, h, m => by
    unfold gds at h
    obtain ⟨h1, h2⟩ := Bool.and_eq_true_iff.mp h
    rcases List.mem_cons.mp m with rfl | m
    · exact h1
    · exact gds_mem h2 m
theorem gd_tup {n : Nat} {l : List D} (h : gd n (.tup l) = true) : ∃ k, n = k + 1 ∧ gds k l = true := by
  cases n with
  | zero => unfold gd at h; cases h
  | succ k => unfold gd at h; exact ⟨k, rfl, h⟩
def betw (lo hi : Int) : D → Bool
  | .int i => decide (lo ≤ i) && decide (i ≤ hi)
  | _ => false
theorem e3 {d : D} {lo hi : Int} {g : G} (h : plain d = true) : Φ 3 [d, .int lo, .int hi] g = some (.ok (.bl (betw lo hi d)), g) := by
  cases d with
  | int i =>
    show (M.bind (exs (upto F 3) fuel b3 [.imm (.int i), .imm (.int lo), .imm (.int hi)]) retD) g = _
    unfold betw
    cases h1 : decide (lo ≤ i) <;> cases h2 : decide (i ≤ hi) <;> simp [b3, exs, ex, ev, evAnd, slotD, slot, isTy, truth, opD, asB, M.bind, M.pure, M.opt, retD, h1, h2]
  | _ => first | rfl | cases h
def areB (lo hi : Int) : D → Bool
  | .tup l => l.all (betw lo hi)
  | _ => false
theorem e4 {n : Nat} {d : D} {lo hi : Int} {g : G} (h : gd n d = true) : Φ 4 [d, .int lo, .int hi] g = some (.ok (.bl (areB lo hi d)), g) := by
  cases d with
  | tup l =>
    obtain ⟨k, rfl, h1⟩ := gd_tup h
    refine body_ret (k := 1) (exs_ret ?_)
    show ev (upto F 4) (.prim .all [.comp (.call 3 [.var 3, .var 1, .var 2]) (.n 3) [3] (.e (.var 0)) []]) [.imm (.tup l), .imm (.int lo), .imm (.int hi), .un] g = _
    refine ev_all (items := l) (betw lo hi) rfl fun d hd => ⟨[.imm (.tup l), .imm (.int lo), .imm (.int hi), .imm d], rfl, ?_⟩
    refine ev_call (ds := [d, .int lo, .int hi]) rfl ?_
    rw [upto_lt (by decide)]
    exact e3 (gd_plain (gds_mem h1 hd))
  | _ => first | rfl | (have := gd_plain h; cases this)
/-- pairs ascend -/
def ascB : List D → Bool
  | .int a :: .int b :: l => decide (a < b) && ascB (.int b :: l)
  | _ => true
def ints_ (l : List D) : Prop := ∀ d ∈ l, ∃ i, d = .int i
theorem asc_zip : ∀ (l : List D), ints_ l → (zipD l (l.drop 1)).all (fun d => match d with
    | .tup [.int a, .int b] => decide (a < b)
    | _ => false) = ascB l
  | [], _ => rfl
  | [a], _ => by
    show (zipD [a] []).all _ = _
    cases a <;> rfl
  | a :: b :: l, h => by
    obtain ⟨i, rfl⟩ := h a List.mem_cons_self
    obtain ⟨j, rfl⟩ := h b (List.mem_cons_of_mem _ List.mem_cons_self)
    have ih := asc_zip (.int j :: l) fun d hd => h d (List.mem_cons_of_mem _ hd)
    show (decide (i < j) && (zipD (.int j :: l) l).all _) = _
    show _ = (decide (i < j) && ascB (.int j :: l))
    rw [← ih]
    rfl
theorem e5 {l : List D} {g : G} (h : ints_ l) : Φ 5 [.tup l] g = some (.ok (.bl (ascB l)), g) := by
  refine body_ret (k := 2) (exs_ret ?_)
  rw [← asc_zip l h]
  refine ev_all (items := zipD l (l.drop 1)) _ ?_ fun d hd => ?_
  · show M.opt (some (zipD l (cutL l (some ((1 : Nat) : Int)) none))) g = _
    rw [cut_from]
    rfl
  · obtain ⟨i, hi⟩ := List.mem_iff_getElem?.mp hd
    obtain ⟨a, b, ha, hb, rfl⟩ := zip_get _ _ _ _ hi
    obtain ⟨x, rfl⟩ := h a (List.mem_of_getElem? ha)
    obtain ⟨y, rfl⟩ := h b (List.mem_of_mem_drop (List.mem_of_getElem? hb))
    exact ⟨[.imm (.tup l), .imm (.int x), .imm (.int y)], rfl, rfl⟩
theorem at0 {α : Type} (d : α) (l : List α) : atI (d :: l) 0 = some d := by
  unfold atI ixN
  rw [if_pos (by omega), if_pos (by rw [List.length_cons]; omega)]
  rfl
/-! ### rules -/
def head0 : List D → Bool
  | d :: _ => eqD d (.int 0)
  | [] => false
def barsB (many : Int) (nd : D) : D → Bool
  | .tup lb => lb.all (betw 1 (many - 1)) && ascB lb && !(lb.any fun z => eqD z nd)
  | _ => false
def effB (many : Int) : D → Bool
  | .tup le => le.all (betw 0 (many - 1)) && decide ((le.length : Int) = many) && head0 le
  | _ => false
def ruleB (many : Int) : D → Bool
  | .tup [s, t, nd, b, e] => areB 0 (many - 1) (.tup [s, t, nd]) && barsB many nd b && effB many e
  | _ => false
theorem betw_int {lo hi : Int} {d : D} (h : betw lo hi d = true) : ∃ i, d = .int i := by
  cases d with
  | int i => exact ⟨i, rfl⟩
  | _ => cases h
theorem all_ints {lo hi : Int} {l : List D} (h : l.all (betw lo hi) = true) : ints_ l := fun d hd => betw_int (List.all_eq_true.mp h d hd)
theorem sh_int (i : Int) : (D.int i).sh = true := rfl
theorem eq_int (i j : Int) : eqD (.int i) (.int j) = decide (i = j) := by
  show (i == j) = _
  by_cases h : i = j
  · subst h; simp
  · simp [h]
theorem gd_sub {n : Nat} {l m : List D} (h : gds n l = true) (hs : ∀ d ∈ m, d ∈ l) : gds n m = true := by
  induction m with
  | nil => cases n <;> rfl
  | cons d m ih =>
    unfold gds
    rw [gds_mem h (hs d List.mem_cons_self), ih fun x hx => hs x (List.mem_cons_of_mem _ hx)]
    rfl
theorem gd_up {n : Nat} {l : List D} (h : gds n l = true) : gd (n + 1) (.tup l) = true := by
  unfold gd
  exact h
theorem e6 {n : Nat} {v : D} {many : Int} {g : G} (hn : n ≤ 60) (hm : 0 < many) (h : gd n v = true) : Φ 6 [.int many, v] g = some (.ok (.bl (ruleB many v)), g) := by
  cases v with
  | tup l =>
    obtain ⟨k, rfl, hk⟩ := gd_tup h
    match l, hk with
    | [], _ => rfl
    | [_], _ => rfl
    | [_, _], _ => rfl
    | [_, _, _], _ => rfl
    | [_, _, _, _], _ => rfl
    | a1 :: a2 :: a3 :: a4 :: a5 :: a6 :: r, hk =>
      have hc : ev (upto F 6) (.or [.not (.isi (.var 1) .tuple), .op .ne (.prim .len [.var 1]) (.cst (.int 5)), .not (.call 4 [.slc (.var 1) none (some (.cst (.int 3))), .cst (.int 0), .op .sub (.var 0) (.cst (.int 1))])]) [.imm (.int many), .imm (.tup (a1 :: a2 :: a3 :: a4 :: a5 :: a6 :: r)), .un, .un, .un, .un, .un] g = some (.ok (.bl true), g) := by
        refine or_f rfl (or_t (op_b (x := .int ((a1 :: a2 :: a3 :: a4 :: a5 :: a6 :: r).length : Nat)) (y := .int 5) rfl rfl ?_))
        rw [op_ne rfl rfl, eq_int, decide_eq_false (by simp only [List.length_cons]; omega)]
        rfl
      refine body_ret (Φ := upto F 6) (fuel := fuel) (b := b6) (k := 5) (as := [.int many, .tup (a1 :: a2 :: a3 :: a4 :: a5 :: a6 :: r)]) (exs_ifR hc ?_)
      exact exs_ret rfl
    | [s, t, nd, b, e], hk =>
      have gdm : ∀ d ∈ [s, t, nd, b, e], gd k d = true := fun d hd => gds_mem hk hd
      have gb : gd k b = true := gdm b (by simp)
      have ge : gd k e = true := gdm e (by simp)
      have gn : gd k nd = true := gdm nd (by simp)
      have h3 : gd (k + 1) (.tup [s, t, nd]) = true := gd_up (gd_sub hk fun d hd => by simp at hd ⊢; rcases hd with z | z | z <;> simp [z])
      have c1 : ev (upto F 6) (.or [.not (.isi (.var 1) .tuple), .op .ne (.prim .len [.var 1]) (.cst (.int 5)), .not (.call 4 [.slc (.var 1) none (some (.cst (.int 3))), .cst (.int 0), .op .sub (.var 0) (.cst (.int 1))])]) [.imm (.int many), .imm (.tup [s, t, nd, b, e]), .un, .un, .un, .un, .un] g = some (.ok (.bl (!areB 0 (many - 1) (.tup [s, t, nd]))), g) := by
        refine or_f rfl (or_f rfl (or_1 (not_b (ev_call (ds := [.tup [s, t, nd], .int 0, .int (many - 1)]) rfl ?_))))
        rw [upto_lt (by decide)]
        exact e4 h3
      refine (body_ret (k := 5) (exs_ifB (b' := barsB many nd b && effB many e) c1 rfl fun hb => ?_)).trans ?_
      · have ha : areB 0 (many - 1) (.tup [s, t, nd]) = true := by simpa using hb
        rw [exs_asg (d := .tup [s, t, nd, b, e]) (σ' := [.imm (.int many), .imm (.tup [s, t, nd, b, e]), .imm s, .imm t, .imm nd, .imm b, .imm e]) rfl rfl]
        obtain ⟨ni, rfl⟩ := betw_int (List.all_eq_true.mp ha nd (by simp))
        have c2 : ev (upto F 6) (.or [.not (.call 4 [.var 5, .cst (.int 1), .op .sub (.var 0) (.cst (.int 1))]), .not (.call 5 [.var 5]), .op .mem (.var 4) (.var 5)]) [.imm (.int many), .imm (.tup [s, t, .int ni, b, e]), .imm s, .imm t, .imm (.int ni), .imm b, .imm e] g = some (.ok (.bl (!barsB many (.int ni) b)), g) := by
          have q1 : ev (upto F 6) (.not (.call 4 [.var 5, .cst (.int 1), .op .sub (.var 0) (.cst (.int 1))])) [.imm (.int many), .imm (.tup [s, t, .int ni, b, e]), .imm s, .imm t, .imm (.int ni), .imm b, .imm e] g = some (.ok (.bl (!areB 1 (many - 1) b)), g) := by
            refine not_b (ev_call (ds := [b, .int 1, .int (many - 1)]) rfl ?_)
            rw [upto_lt (by decide)]
            exact e4 gb
          cases hq : areB 1 (many - 1) b with
          | false =>
            rw [hq] at q1
            refine (or_t q1).trans ?_
            cases b with
            | tup lb =>
              have hq : lb.all (betw 1 (many - 1)) = false := hq
              show _ = some (R.ok (D.bl (!(lb.all (betw 1 (many - 1)) && ascB lb && !(lb.any fun z => eqD z (.int ni))))), g)
              rw [hq]
              rfl
            | _ => rfl
          | true =>
            rw [hq] at q1
            cases b with
            | tup lb =>
              have hq' : lb.all (betw 1 (many - 1)) = true := hq
              have hi := all_ints hq'
              have q2 : ev (upto F 6) (.not (.call 5 [.var 5])) [.imm (.int many), .imm (.tup [s, t, .int ni, .tup lb, e]), .imm s, .imm t, .imm (.int ni), .imm (.tup lb), .imm e] g = some (.ok (.bl (!ascB lb)), g) := by
                refine not_b (ev_call (ds := [.tup lb]) rfl ?_)
                rw [upto_lt (by decide)]
                exact e5 hi
              have q3 : ev (upto F 6) (.op .mem (.var 4) (.var 5)) [.imm (.int many), .imm (.tup [s, t, .int ni, .tup lb, e]), .imm s, .imm t, .imm (.int ni), .imm (.tup lb), .imm e] g = some (.ok (.bl (lb.any fun z => eqD z (.int ni))), g) := op_b rfl rfl (op_mem rfl (gd_ok gb (by omega)))
              refine (or_f q1 (or_b q2 fun _ => or_1 q3)).trans ?_
              show _ = some (R.ok (D.bl (!(lb.all (betw 1 (many - 1)) && ascB lb && !(lb.any fun z => eqD z (.int ni))))), g)
              rw [hq']
              cases ascB lb <;> cases (lb.any fun z => eqD z (.int ni)) <;> rfl
            | _ => cases hq
        refine (exs_ifB (b' := effB many e) c2 rfl fun _ => ?_).trans ?_
        · refine exs_ret ?_
          have q1 : ev (upto F 6) (.call 4 [.var 6, .cst (.int 0), .op .sub (.var 0) (.cst (.int 1))]) [.imm (.int many), .imm (.tup [s, t, .int ni, b, e]), .imm s, .imm t, .imm (.int ni), .imm b, .imm e] g = some (.ok (.bl (areB 0 (many - 1) e)), g) := by
            refine ev_call (ds := [e, .int 0, .int (many - 1)]) rfl ?_
            rw [upto_lt (by decide)]
            exact e4 ge
          cases e with
          | tup le =>
            refine (and_b q1 (b' := decide ((le.length : Int) = many) && head0 le) fun _ => ?_).trans ?_
            · have q2 : ev (upto F 6) (.op .eq (.prim .len [.var 6]) (.var 0)) [.imm (.int many), .imm (.tup [s, t, .int ni, b, .tup le]), .imm s, .imm t, .imm (.int ni), .imm b, .imm (.tup le)] g = some (.ok (.bl (decide ((le.length : Int) = many))), g) := by
                refine op_b (x := .int le.length) (y := .int many) rfl rfl ?_
                rw [op_eq rfl rfl, eq_int]
              refine and_b q2 fun hl => and_1 ?_
              have hl : (le.length : Int) = many := of_decide_eq_true hl
              cases le with
              | nil => simp at hl; omega
              | cons d le =>
                refine op_b (x := d) (y := .int 0) (by rw [ev, bind_ok (a := .tup (d :: le)) rfl, bind_ok (a := .int 0) rfl]; show M.opt (atI (d :: le) 0) g = _; rw [at0]; rfl) rfl ?_
                obtain ⟨j, rfl, hj⟩ := gd_tup ge
                rw [op_eq (gd_ok (gds_mem hj List.mem_cons_self) (by omega)) rfl]
                rfl
            · show _ = some (R.ok (D.bl (le.all (betw 0 (many - 1)) && decide ((le.length : Int) = many) && head0 le)), g)
              rw [Bool.and_assoc]
              rfl
          | _ => exact and_f q1
        · cases barsB many (.int ni) b <;> rfl
      · show _ = some (R.ok (D.bl (areB 0 (many - 1) (.tup [s, t, nd]) && barsB many nd b && effB many e)), g)
        cases areB 0 (many - 1) (.tup [s, t, nd]) <;> rfl
  | _ => first | rfl | (have := gd_plain h; cases this)
/-! ### protocols -/
def rulesB (many : Int) : D → Bool
  | .tup rs => decide (rs.length ≤ 8) && rs.all (ruleB many)
  | _ => false
def protB : D → Bool
  | .tup [.int m, r] => betw 2 5 (.int m) && rulesB m r
  | _ => false
theorem e7 {n : Nat} {v : D} {g : G} (hn : n ≤ 60) (h : gd n v = true) : Φ 7 [v] g = some (.ok (.bl (protB v)), g) := by
  cases v with
  | tup l =>
    obtain ⟨k, rfl, hk⟩ := gd_tup h
    match l, hk with
    | [], _ => rfl
    | [a], _ => cases a <;> rfl
    | a1 :: a2 :: a3 :: r, hk =>
      have hc : ev (upto F 7) (.or [.not (.isi (.var 0) .tuple), .op .ne (.prim .len [.var 0]) (.cst (.int 2)), .not (.call 3 [.idx (.var 0) (.cst (.int 0)), .cst (.int 2), .cst (.int 5)])]) [.imm (.tup (a1 :: a2 :: a3 :: r)), .un, .un, .un] g = some (.ok (.bl true), g) := by
        refine or_f rfl (or_t (op_b (x := .int ((a1 :: a2 :: a3 :: r).length : Nat)) (y := .int 2) rfl rfl ?_))
        rw [op_ne rfl rfl, eq_int, decide_eq_false (by simp only [List.length_cons]; omega)]
        rfl
      refine (body_ret (Φ := upto F 7) (fuel := fuel) (b := b7) (k := 3) (as := [.tup (a1 :: a2 :: a3 :: r)]) (d := .bl false) (g1 := g) (exs_ifR hc ?_)).trans ?_
      · exact exs_ret rfl
      · cases a1 <;> rfl
    | [m, r], hk =>
      have gm : gd k m = true := gds_mem hk (by simp)
      have gr : gd k r = true := gds_mem hk (by simp)
      have hc : ev (upto F 7) (.or [.not (.isi (.var 0) .tuple), .op .ne (.prim .len [.var 0]) (.cst (.int 2)), .not (.call 3 [.idx (.var 0) (.cst (.int 0)), .cst (.int 2), .cst (.int 5)])]) [.imm (.tup [m, r]), .un, .un, .un] g = some (.ok (.bl (!betw 2 5 m)), g) := by
        refine or_f rfl (or_f rfl (or_1 (not_b (ev_call (ds := [m, .int 2, .int 5]) rfl ?_))))
        rw [upto_lt (by decide)]
        exact e3 (gd_plain gm)
      refine (body_ret (Φ := upto F 7) (fuel := fuel) (b := b7) (k := 3) (as := [.tup [m, r]]) (exs_ifB (b' := match m with | .int i => rulesB i r | _ => false) hc rfl fun hb => ?_)).trans ?_
      · have hb : betw 2 5 m = true := by simpa using hb
        obtain ⟨i, rfl⟩ := betw_int hb
        have hi : 0 < i := by
          have := (Bool.and_eq_true_iff.mp hb).1
          have := of_decide_eq_true this
          omega
        rw [exs_asg (d := .tup [.int i, r]) (σ' := [.imm (.tup [.int i, r]), .imm (.int i), .imm r, .un]) rfl rfl]
        refine exs_ret ?_
        cases r with
        | tup rs =>
          obtain ⟨j, rfl, hj⟩ := gd_tup gr
          refine and_t rfl (and_b (b := decide (rs.length ≤ 8)) ?_ fun _ => and_1 ?_)
          · refine op_b (x := .int rs.length) (y := .int 8) rfl rfl ?_
            show some (D.bl (decide ((rs.length : Int) ≤ 8))) = _
            congr 2
            exact decide_eq_decide.mpr (by omega)
          · refine ev_all (items := rs) (ruleB i) rfl fun d hd => ⟨[.imm (.tup [.int i, .tup rs]), .imm (.int i), .imm (.tup rs), .imm d], rfl, ?_⟩
            refine ev_call (ds := [.int i, d]) rfl ?_
            rw [upto_lt (by decide)]
            exact e6 (n := j) (by omega) hi (gds_mem hj hd)
        | _ => first | rfl | (have := gd_plain gr; cases this)
      · cases m <;> first | rfl | (show _ = some (R.ok (D.bl (betw 2 5 _ && _)), g); cases betw 2 5 (D.int _) <;> rfl)
  | _ => first | rfl | (have := gd_plain h; cases this)
theorem e19 {n : Nat} {v : D} {g : G} (hn : n ≤ 60) (h : gd n v = true) (hp : protB v = true) : Φ 19 [v] g = some (.ok .non, g) := by
  have hc : ev (upto F 19) (.not (.call 7 [.var 0])) [.imm v] g = some (.ok (.bl false), g) := by
    refine not_b (b := true) (ev_call (ds := [v]) rfl ?_)
    rw [upto_lt (by decide)]
    exact (e7 hn h).trans (by rw [hp])
  refine body_next (Φ := upto F 19) (fuel := fuel) (b := b19) (k := 0) (as := [v]) (σ := [.imm v]) ?_
  show exs (upto F 19) fuel b19 [.imm v] g = _
  unfold b19
  rw [exs_ifN hc]
  exact exs_nil
/-! ### counts -/
def countB : D → Bool
  | .int i => decide (0 ≤ i)
  | _ => false
theorem e20 {d : D} {g : G} (h : plain d = true) : Φ 20 [d] g = some (.ok (.bl (countB d)), g) := by
  cases d <;> first | rfl | cases h
def countsB (many : Int) : D → Bool
  | .tup l => decide ((l.length : Int) = many) && l.all countB
  | _ => false
theorem e21 {n : Nat} {v r : D} {many : Int} {g : G} (h : gd n v = true) : Φ 21 [.tup [.int many, r], v] g = some (.ok (.bl (countsB many v)), g) := by
  cases v with
  | tup l =>
    obtain ⟨k, rfl, hk⟩ := gd_tup h
    refine body_ret (Φ := upto F 21) (fuel := fuel) (b := b21) (k := 1) (as := [.tup [.int many, r], .tup l]) (exs_ret (and_t rfl (and_b (b := decide ((l.length : Int) = many)) ?_ fun _ => and_1 ?_)))
    · refine op_b (x := .int l.length) (y := .int many) rfl rfl ?_
      rw [op_eq rfl rfl, eq_int]
    · refine ev_all (items := l) countB rfl fun d hd => ⟨[.imm (.tup [.int many, r]), .imm (.tup l), .imm d], rfl, ?_⟩
      refine ev_call (ds := [d]) rfl ?_
      rw [upto_lt (by decide)]
      exact e20 (gd_plain (gds_mem hk hd))
  | _ => first | rfl | (have := gd_plain h; cases this)
def sumD : D → Int
  | .tup l => match asInts l with
    | some ns => ns.sum
    | none => 0
  | _ => 0
theorem asInts_of : ∀ {l : List D}, ints_ l → ∃ ns, asInts l = some ns ∧ l = ns.map D.int
  | [], _ => ⟨[], rfl, rfl⟩
  | d :: l, h => by
    obtain ⟨i, rfl⟩ := h d List.mem_cons_self
    obtain ⟨ns, e, rfl⟩ := asInts_of fun x hx => h x (List.mem_cons_of_mem _ hx)
    refine ⟨i :: ns, ?_, rfl⟩
    show (asInts (ns.map D.int)).map (i :: ·) = _
    rw [e]
    rfl
theorem count_ints {l : List D} (h : l.all countB = true) : ints_ l := fun d hd => by
  have := List.all_eq_true.mp h d hd
  cases d with
  | int i => exact ⟨i, rfl⟩
  | _ => cases this
theorem counts_tup {many : Int} {v : D} (h : countsB many v = true) : ∃ ns : List Int, v = .tup (ns.map D.int) ∧ (ns.length : Int) = many ∧ sumD v = ns.sum ∧ prD .sum [v] = some (.int ns.sum) := by
  cases v with
  | tup l =>
    obtain ⟨h1, h2⟩ := Bool.and_eq_true_iff.mp h
    obtain ⟨ns, e, rfl⟩ := asInts_of (count_ints h2)
    refine ⟨ns, rfl, by have := of_decide_eq_true h1; simpa using this, ?_, ?_⟩
    · show (match asInts (ns.map D.int) with
        | some ns => ns.sum
        | none => 0) = _
      rw [e]
    · show (asInts (ns.map D.int)).map (fun ns => D.int ns.sum) = _
      rw [e]
      rfl
  | _ => cases h
def confB (many : Int) (v : D) : Bool := countsB many v && (decide (1 ≤ sumD v) && decide (sumD v ≤ 8))
theorem chn_b {Φ : Ph} {σ : List Sl} {g : G} {a b c : E} {x y z : Int} (h1 : ev Φ a σ g = some (.ok (.int x), g)) (h2 : ev Φ b σ g = some (.ok (.int y), g)) (h3 : ev Φ c σ g = some (.ok (.int z), g)) : ev Φ (.chn .le .le a b c) σ g = some (.ok (.bl (decide (x ≤ y) && decide (y ≤ z))), g) := by
  rw [ev, bind_ok h1, bind_ok h2]
  show (M.bind (M.pure (decide (x ≤ y))) _) g = _
  cases decide (x ≤ y) with
  | false => rfl
  | true =>
    show (M.bind (ev Φ c σ) _) g = _
    rw [bind_ok h3]
    rfl
theorem e22 {n : Nat} {v r : D} {many : Int} {g : G} (h : gd n v = true) : Φ 22 [.tup [.int many, r], v] g = some (.ok (.bl (confB many v)), g) := by
  refine body_ret (Φ := upto F 22) (fuel := fuel) (b := b22) (k := 0) (as := [.tup [.int many, r], v]) (exs_ret (and_b (b := countsB many v) (b' := decide (1 ≤ sumD v) && decide (sumD v ≤ 8)) (ev_call (ds := [.tup [.int many, r], v]) rfl ?_) fun hc => and_1 ?_))
  · rw [upto_lt (by decide)]
    exact e21 h
  · obtain ⟨ns, rfl, _, e, hs⟩ := counts_tup hc
    rw [e]
    exact chn_b rfl (ev_prim rfl hs) rfl
theorem e2 {x y : Bool} {g : G} : Φ 2 [.bl x, .bl y] g = some (.ok (.bl (x == y)), g) := by cases x <;> cases y <;> rfl
/-- a protocol that is one, small enough -/
structure Prt (p r : D) (many : Int) : Prop where
  eq : p = .tup [.int many, r]
  ok : protB p = true
  gd : gd 10 p = true
theorem Prt.pos {p r : D} {many : Int} (h : Prt p r many) : 2 ≤ many ∧ many ≤ 5 := by
  have := h.ok
  rw [h.eq] at this
  have := (Bool.and_eq_true_iff.mp this).1
  have := Bool.and_eq_true_iff.mp (show (decide (2 ≤ many) && decide (many ≤ 5)) = true from this)
  exact ⟨of_decide_eq_true this.1, of_decide_eq_true this.2⟩
theorem e23 {n : Nat} {p v r : D} {many : Int} {g : G} (hp : Prt p r many) (h : gd n v = true) : Φ 23 [p, v] g = some (.ok (.bl (confB many v)), g) := by
  refine body_ret (Φ := upto F 23) (fuel := fuel) (b := b23) (k := 0) (as := [p, v]) ?_
  unfold b23
  rw [exs_exp (d := .non) (g1 := g) (ev_call (ds := [p]) rfl (by rw [upto_lt (by decide)]; exact e19 (by omega) hp.gd hp.ok))]
  refine exs_ret (ev_call (ds := [p, v]) rfl ?_)
  rw [upto_lt (by decide), hp.eq]
  exact e22 h
def patB (many : Int) : D → Bool
  | .tup l => countsB many (.tup l) && (head0 l && (decide (1 ≤ sumD (.tup l)) && decide (sumD (.tup l) ≤ 4)))
  | _ => false
theorem e24 {n : Nat} {v r : D} {many : Int} {g : G} (hm : 0 < many) (h : gd n v = true) : Φ 24 [.tup [.int many, r], v] g = some (.ok (.bl (patB many v)), g) := by
  have q1 : ev (upto F 24) (.call 21 [.var 0, .var 1]) [.imm (.tup [.int many, r]), .imm v] g = some (.ok (.bl (countsB many v)), g) := by
    refine ev_call (ds := [.tup [.int many, r], v]) rfl ?_
    rw [upto_lt (by decide)]
    exact e21 h
  cases v with
  | tup l =>
    refine body_ret (Φ := upto F 24) (fuel := fuel) (b := b24) (k := 0) (as := [.tup [.int many, r], .tup l]) (exs_ret (and_b q1 fun hc => ?_))
    obtain ⟨ns, e0, hl, e, hs⟩ := counts_tup hc
    cases e0
    cases ns with
    | nil => simp at hl; omega
    | cons i ns =>
      refine and_b (b := head0 ((i :: ns).map D.int)) ?_ fun _ => and_1 ?_
      · refine op_b (x := .int i) (y := .int 0) (by rw [ev, bind_ok (a := .tup ((i :: ns).map D.int)) rfl, bind_ok (a := .int 0) rfl]; show M.opt (atI (D.int i :: ns.map D.int) 0) g = _; rw [at0]; rfl) rfl ?_
        rw [op_eq rfl rfl]
        rfl
      · rw [e]
        exact chn_b rfl (ev_prim rfl hs) rfl
  | _ => first | rfl | (have := gd_plain h; cases this)
theorem e25 {n : Nat} {p v r : D} {many : Int} {g : G} (hp : Prt p r many) (h : gd n v = true) : Φ 25 [p, v] g = some (.ok (.bl (patB many v)), g) := by
  refine body_ret (Φ := upto F 25) (fuel := fuel) (b := b25) (k := 0) (as := [p, v]) ?_
  unfold b25
  rw [exs_exp (d := .non) (g1 := g) (ev_call (ds := [p]) rfl (by rw [upto_lt (by decide)]; exact e19 (by omega) hp.gd hp.ok))]
  refine exs_ret (ev_call (ds := [p, v]) rfl ?_)
  rw [upto_lt (by decide), hp.eq]
  exact e24 (by have := hp.pos; omega) h
def logB (many : Int) : D → Bool
  | .tup (x :: l) => decide ((x :: l).length ≤ 6) && ((x :: l).all (confB many) && (x :: l).all fun d => decide (sumD d = sumD x))
  | _ => false
theorem conf_counts {many : Int} {v : D} (h : confB many v = true) : countsB many v = true := (Bool.and_eq_true_iff.mp h).1
theorem e26 {n : Nat} {v r : D} {many : Int} {g : G} (h : gd n v = true) : Φ 26 [.tup [.int many, r], v] g = some (.ok (.bl (logB many v)), g) := by
  cases v with
  | tup l =>
    obtain ⟨k, rfl, hk⟩ := gd_tup h
    cases l with
    | nil => rfl
    | cons x l =>
      have c1 : ev (upto F 26) (.or [.not (.isi (.var 1) .tuple), .not (.chn .le .le (.cst (.int 1)) (.prim .len [.var 1]) (.cst (.int 6)))]) [.imm (.tup [.int many, r]), .imm (.tup (x :: l)), .un] g = some (.ok (.bl (!decide ((x :: l).length ≤ 6))), g) := by
        refine or_f rfl (or_1 (not_b (b := decide ((x :: l).length ≤ 6)) ?_))
        have := chn_b (Φ := upto F 26) (σ := [.imm (.tup [.int many, r]), .imm (.tup (x :: l)), .un]) (g := g) (a := .cst (.int 1)) (b := .prim .len [.var 1]) (c := .cst (.int 6)) (x := 1) (y := (x :: l).length) (z := 6) rfl rfl rfl
        rw [this, decide_eq_true (by rw [List.length_cons]; omega : (1 : Int) ≤ ((x :: l).length : Nat))]
        rw [Bool.true_and]
        congr 4
        exact decide_eq_decide.mpr (by omega)
      refine (body_ret (Φ := upto F 26) (fuel := fuel) (b := b26) (k := 1) (as := [.tup [.int many, r], .tup (x :: l)]) (exs_ifB (b' := (x :: l).all (confB many) && (x :: l).all fun d => decide (sumD d = sumD x)) c1 rfl fun _ => ?_)).trans ?_
      · have c2 : ev (upto F 26) (.not (.prim .all [.comp (.call 22 [.var 0, .var 2]) (.n 2) [2] (.e (.var 1)) []])) [.imm (.tup [.int many, r]), .imm (.tup (x :: l)), .un] g = some (.ok (.bl (!(x :: l).all (confB many))), g) := by
          refine not_b (ev_all (items := x :: l) (confB many) rfl fun d hd => ⟨[.imm (.tup [.int many, r]), .imm (.tup (x :: l)), .imm d], rfl, ?_⟩)
          refine ev_call (ds := [.tup [.int many, r], d]) rfl ?_
          rw [upto_lt (by decide)]
          exact e22 (gds_mem hk hd)
        refine (exs_ifB (b' := (x :: l).all fun d => decide (sumD d = sumD x)) c2 rfl fun hb => ?_).trans ?_
        · have hb : (x :: l).all (confB many) = true := by simpa using hb
          refine exs_ret (ev_all (items := x :: l) _ rfl fun d hd => ⟨[.imm (.tup [.int many, r]), .imm (.tup (x :: l)), .imm d], rfl, ?_⟩)
          obtain ⟨ns, rfl, _, e, hs⟩ := counts_tup (conf_counts (List.all_eq_true.mp hb d hd))
          obtain ⟨ms, e0, _, e', hs'⟩ := counts_tup (conf_counts (List.all_eq_true.mp hb x List.mem_cons_self))
          rw [e, e']
          refine op_b (x := .int ns.sum) (y := .int ms.sum) (ev_prim rfl hs) (ev_prim (d := x) (by rw [ev, bind_ok (a := .tup (x :: l)) rfl, bind_ok (a := .int 0) rfl]; show M.opt (atI (x :: l) 0) g = _; rw [at0]; rfl) hs') ?_
          rw [op_eq rfl rfl, eq_int]
        · cases (x :: l).all (confB many) <;> rfl
      · show _ = some (R.ok (D.bl (decide ((x :: l).length ≤ 6) && _)), g)
        cases decide ((x :: l).length ≤ 6) <;> rfl
  | _ => first | rfl | (have := gd_plain h; cases this)
theorem e27 {n : Nat} {p v r : D} {many : Int} {g : G} (hp : Prt p r many) (h : gd n v = true) : Φ 27 [p, v] g = some (.ok (.bl (logB many v)), g) := by
  refine body_ret (Φ := upto F 27) (fuel := fuel) (b := b27) (k := 0) (as := [p, v]) ?_
  unfold b27
  rw [exs_exp (d := .non) (g1 := g) (ev_call (ds := [p]) rfl (by rw [upto_lt (by decide)]; exact e19 (by omega) hp.gd hp.ok))]
  refine exs_ret (ev_call (ds := [p, v]) rfl ?_)
  rw [upto_lt (by decide), hp.eq]
  exact e26 h
end K01
namespace K01
open PySem PySem.Spec L2 MC
theorem e8 {g : G} : Φ 8 [] g = some (.ok (.bl true), g) := by kernel_rfl
structure Rule (many : Int) (s t nd : Int) (lb le : List Int) : Prop where
  hs : 0 ≤ s ∧ s < many
  ht : 0 ≤ t ∧ t < many
  hnd : 0 ≤ nd ∧ nd < many
  hlb : ∀ x ∈ lb, 1 ≤ x ∧ x < many
  asc : lb.Pairwise (· < ·)
  no : nd ∉ lb
  hle : ∀ x ∈ le, 0 ≤ x ∧ x < many
  len : (le.length : Int) = many
  hd : ∃ r, le = 0 :: r
def ruleD (s t nd : Int) (lb le : List Int) : D := .tup [.int s, .int t, .int nd, .tup (lb.map D.int), .tup (le.map D.int)]
theorem range_asc (lo hi : Int) : ∀ d ∈ rangeD lo hi, ∃ x, d = .int x ∧ lo ≤ x ∧ x < hi := fun d hd => by
  unfold rangeD at hd
  obtain ⟨i, hi, rfl⟩ := List.mem_map.mp hd
  exact ⟨_, rfl, by omega, by have := List.mem_range.mp hi; omega⟩
theorem sub_ints {lo hi : Int} {ks : List D} (h : ks.Sublist (rangeD lo hi)) : ∃ lb : List Int, ks = lb.map D.int ∧ lb.Pairwise (· < ·) ∧ ∀ x ∈ lb, lo ≤ x ∧ x < hi := by
  have e : rangeD lo hi = ((List.range (hi - lo).toNat).map fun i => lo + ((i : Nat) : Int)).map D.int := by
    unfold rangeD
    rw [List.map_map]
    rfl
  rw [e] at h
  obtain ⟨lb, h1, rfl⟩ := List.sublist_map_iff.mp h
  refine ⟨lb, rfl, ?_, fun x hx => ?_⟩
  · refine List.Pairwise.sublist h1 ?_
    rw [List.pairwise_map]
    exact List.pairwise_lt_range.imp fun h => by omega
  · obtain ⟨i, hi, rfl⟩ := List.mem_map.mp (h1.subset hx)
    have := List.mem_range.mp hi
    omega
section
variable {ns : List Int} (hl : ns.length ≤ 63)
include hl
theorem dr {n : Nat} (hn : 1 < n) {m : Int} (m0 : 0 < m) (m1 : m < 1000) : Got ns.length (upto F n 1 [.scr ns, .obj 0, .int m]) fun d => ∃ v, d = .int v ∧ 0 ≤ v ∧ v < m := by
  rw [upto_lt hn]
  exact got_draw hl m0 (by omega)
/-- draw(..) == 0 -/
theorem dr0 {n : Nat} (hn : 1 < n) {m : Int} {σ : List Sl} {es : List E} (he : ∀ g, evs (upto F n) es σ g = some (.ok [.scr ns, .obj 0, .int m], g)) (m0 : 0 < m) (m1 : m < 1000) : Got ns.length (ev (upto F n) (.op .eq (.call 1 es) (.cst (.int 0))) σ) fun d => ∃ t, d = .bl t := by
  refine got_op (got_call he (dr hl hn m0 m1)) got_cst fun x y ⟨v, hx, _⟩ hy => ?_
  subst hx hy
  exact ⟨_, op_eq rfl rfl, _, rfl⟩
theorem e9 {many : Int} (h2 : 2 ≤ many) (h5 : many ≤ 5) : Got ns.length (Φ 9 [.scr ns, .obj 0, .int many]) fun d => ∃ s t nd lb le, d = ruleD s t nd lb le ∧ Rule many s t nd lb le := by
  refine got_body (b := b9) (k := 6) (as := [.scr ns, .obj 0, .int many]) ?_
  refine got_asg (P := fun d => ∃ v, d = .int v ∧ 0 ≤ v ∧ v < many) ?_ fun d ⟨s, hs, s0, s1⟩ => ?_
  · refine got_ife (P := fun _ => True) ((dr0 hl (by decide) (m := 2) (fun g => rfl) (by omega) (by omega)).imp fun d ⟨t, h⟩ => ⟨t, h, trivial⟩) (fun _ => got_call (fun g => rfl) (dr hl (by decide) (by omega) (by omega))) fun _ => got_cst.imp fun d hd => ⟨0, hd, by omega, by omega⟩
  subst hs
  refine ⟨[.imm (.scr ns), .imm (.obj 0), .imm (.int many), .imm (.int s), .un, .un, .un, .un, .un], rfl, ?_⟩
  refine got_asg (P := fun d => ∃ v, d = .int v ∧ 0 ≤ v ∧ v < many) (got_call (fun g => rfl) (dr hl (by decide) (by omega) (by omega))) fun d ⟨t, ht, t0, t1⟩ => ?_
  subst ht
  refine ⟨[.imm (.scr ns), .imm (.obj 0), .imm (.int many), .imm (.int s), .imm (.int t), .un, .un, .un, .un], rfl, ?_⟩
  refine got_asg (P := fun d => ∃ v, d = .int v ∧ 0 ≤ v ∧ v < many) ?_ fun d ⟨nd, hn, n0, n1⟩ => ?_
  · refine got_ife (P := fun _ => True) ((dr0 hl (by decide) (m := 3) (fun g => rfl) (by omega) (by omega)).imp fun d ⟨t, h⟩ => ⟨t, h, trivial⟩) (fun _ => got_call (fun g => rfl) (dr hl (by decide) (by omega) (by omega))) fun _ => got_cst.imp fun d hd => ⟨0, hd, by omega, by omega⟩
  subst hn
  refine ⟨[.imm (.scr ns), .imm (.obj 0), .imm (.int many), .imm (.int s), .imm (.int t), .imm (.int nd), .un, .un, .un], rfl, ?_⟩
  have hr : walkR [.int 1, .int many] = some (rangeD 1 many) := by
    show (if (-lim62 ≤ (1 : Int) ∧ (1 : Int) < lim62) ∧ -lim62 ≤ many ∧ many < lim62 ∧ many - 1 ≤ 16777216 then some (rangeD 1 many) else none) = _
    rw [if_pos (by unfold lim62; omega)]
  refine got_asg (P := fun d => ∃ lb : List Int, d = .tup (lb.map D.int) ∧ (∀ x ∈ lb, 1 ≤ x ∧ x < many) ∧ lb.Pairwise (· < ·) ∧ nd ∉ lb) ?_ fun d ⟨lb, hb, b0, b1, b2⟩ => ?_
  · have hand : ∀ x : Int, Got ns.length (ev (upto F 9) (.and [.op .eq (.call 1 [.var 0, .var 1, .cst (.int 5)]) (.cst (.int 0)), .op .ne (.var 8) (.var 5)]) [.imm (.scr ns), .imm (.obj 0), .imm (.int many), .imm (.int s), .imm (.int t), .imm (.int nd), .un, .un, .imm (.int x)]) (fun d => ∃ b : Bool, d = .bl b ∧ (b = true → x ≠ nd)) := fun x => by
      refine Got.eq ((dr0 hl (n := 9) (by decide) (m := 5) (σ := [.imm (.scr ns), .imm (.obj 0), .imm (.int many), .imm (.int s), .imm (.int t), .imm (.int nd), .un, .un, .imm (.int x)]) (es := [.var 0, .var 1, .cst (.int 5)]) (fun g => rfl) (by omega) (by omega)).bind (f := fun y => M.bind (M.opt (truth y)) fun b => match b with
          | true => evAnd (upto F 9) [.op .ne (.var 8) (.var 5)] [.imm (.scr ns), .imm (.obj 0), .imm (.int many), .imm (.int s), .imm (.int t), .imm (.int nd), .un, .un, .imm (.int x)]
          | false => M.pure y) fun d ⟨b, hb⟩ => ?_) (by rw [ev, evAnd]; rfl)
      subst hb
      cases b with
      | false => exact .pure ⟨false, rfl, fun z => by cases z⟩
      | true =>
        refine .of (a := .bl (!eqD (.int x) (.int nd))) (fun g => rfl) ⟨_, rfl, fun z => ?_⟩
        rw [eq_int] at z
        simpa using z
    have hcomp := got_compL (len := ns.length) (σ := clear [8] [.imm (.scr ns), .imm (.obj 0), .imm (.int many), .imm (.int s), .imm (.int t), .imm (.int nd), .un, .un, .un]) (tg := .n 8) (test := fun σ' => evt (upto F 9) [.and [.op .eq (.call 1 [.var 0, .var 1, .cst (.int 5)]) (.cst (.int 0)), .op .ne (.var 8) (.var 5)]] σ') (elt := fun σ' => ev (upto F 9) (.var 8) σ') (fun d => ∃ x, d = .int x ∧ x ≠ nd) (fun k d => d = k) (rangeD 1 many) fun d hd => by
      obtain ⟨x, rfl, x0, x1⟩ := range_asc 1 many d hd
      refine ⟨[.imm (.scr ns), .imm (.obj 0), .imm (.int many), .imm (.int s), .imm (.int t), .imm (.int nd), .un, .un, .imm (.int x)], rfl, ?_, fun _ => .of (fun g => rfl) rfl⟩
      refine Got.eq ((hand x).bind (f := fun y => M.opt (truth y)) fun d ⟨b, hb, hx⟩ => ?_) (by rw [evt])
      subst hb
      exact .pure fun z => ⟨x, rfl, hx z⟩
    refine got_prim1 (got_comp (items := rangeD 1 many) (.of (fun g => by
      show M.opt (walkR [.int 1, .int many]) g = _
      rw [hr]
      rfl) rfl) hcomp) fun d ⟨ds, hd, ks, h1, h2, h3, h4⟩ => ?_
    have : ds = ks := by
      refine List.ext_getElem? fun i => ?_
      cases e : ks[i]? with
      | none =>
        rw [List.getElem?_eq_none_iff] at e ⊢
        omega
      | some k =>
        have hi : i < ds.length := by rw [h3]; exact (List.getElem?_eq_some_iff.mp e).1
        rw [List.getElem?_eq_getElem hi, h4 i k ds[i] e (List.getElem?_eq_getElem hi)]
    subst this
    obtain ⟨lb, rfl, p1, p2⟩ := sub_ints h1
    subst hd
    refine ⟨.tup (lb.map D.int), rfl, lb, rfl, p2, p1, fun z => ?_⟩
    obtain ⟨x, e, ne⟩ := h2 (.int nd) (List.mem_map_of_mem z)
    cases e
    exact ne rfl
  subst hb
  refine ⟨[.imm (.scr ns), .imm (.obj 0), .imm (.int many), .imm (.int s), .imm (.int t), .imm (.int nd), .imm (.tup (lb.map D.int)), .un, .un], rfl, ?_⟩
  refine Got.eq ?_ (funext fun g => exs_new (l := [.int 0]) (g1 := g) rfl (by show 7 < 9; omega))
  refine got_cons (P := fun σ' => ∃ (le : List Int) (y : Sl), σ' = [.imm (.scr ns), .imm (.obj 0), .imm (.int many), .imm (.int s), .imm (.int t), .imm (.int nd), .imm (.tup (lb.map D.int)), .ml (le.map D.int), y] ∧ (le.length : Int) = many ∧ (∀ x ∈ le, 0 ≤ x ∧ x < many) ∧ ∃ r, le = 0 :: r) ?_ fun σ' ⟨le, y, hσ, l1, l2, l3⟩ => ?_
  · let I : Nat → List Sl → Prop := fun k σ' => ∃ (le : List Int) (y : Sl), σ' = [.imm (.scr ns), .imm (.obj 0), .imm (.int many), .imm (.int s), .imm (.int t), .imm (.int nd), .imm (.tup (lb.map D.int)), .ml (le.map D.int), y] ∧ le.length = 1 + k ∧ (∀ x ∈ le, 0 ≤ x ∧ x < many) ∧ ∃ r, le = 0 :: r
    have hloop := got_loop (len := ns.length) (body := fun σ' => exs (upto F 9) fuel [.app 7 (.idx (.tup [.var 8, .cst (.int 0), .call 1 [.var 0, .var 1, .var 2]]) (.call 1 [.var 0, .var 1, .cst (.int 3)]))] σ') (tg := .n 8) (tmp := []) I (rangeD 1 many) 0 [.imm (.scr ns), .imm (.obj 0), .imm (.int many), .imm (.int s), .imm (.int t), .imm (.int nd), .imm (.tup (lb.map D.int)), .ml [.int 0], .un] ⟨[0], .un, rfl, rfl, by simp; omega, [], rfl⟩ fun i d σ' hi hI => by
      obtain ⟨le, y, rfl, a1, a2, a3⟩ := hI
      obtain ⟨x, rfl, x0, x1⟩ := range_asc 1 many d (List.mem_of_getElem? hi)
      have hb : i < (rangeD 1 many).length := (List.getElem?_eq_some_iff.mp hi).1
      unfold rangeD at hb
      rw [List.length_map, List.length_range] at hb
      refine ⟨[.imm (.scr ns), .imm (.obj 0), .imm (.int many), .imm (.int s), .imm (.int t), .imm (.int nd), .imm (.tup (lb.map D.int)), .ml (le.map D.int), .imm (.int x)], rfl, ?_⟩
      have hv : Got ns.length (ev (upto F 9) (.idx (.tup [.var 8, .cst (.int 0), .call 1 [.var 0, .var 1, .var 2]]) (.call 1 [.var 0, .var 1, .cst (.int 3)])) [.imm (.scr ns), .imm (.obj 0), .imm (.int many), .imm (.int s), .imm (.int t), .imm (.int nd), .imm (.tup (lb.map D.int)), .ml (le.map D.int), .imm (.int x)]) fun d => ∃ v, d = .int v ∧ 0 ≤ v ∧ v < many := by
        refine got_idx (got_tup (got_evs (got_e fun g => rfl) (got_evs got_cst (got_evs (got_call (fun g => rfl) (dr hl (by decide) (m := many) (by omega) (by omega))) got_nil)))) (got_call (fun g => rfl) (dr hl (by decide) (m := 3) (by omega) (by omega))) fun p q ⟨ds, hp, d1, r1, e1, hd1, d2, r2, e2, hd2, d3, r3, e3, ⟨v, hv, v0, v1⟩, hr3⟩ ⟨j, hq, j0, j1⟩ => ?_
        subst hp e1 hd1 e2 hd2 e3 hv hr3 hq
        have : j = 0 ∨ j = 1 ∨ j = 2 := by omega
        rcases this with rfl | rfl | rfl
        · exact ⟨.int x, rfl, x, rfl, by omega, x1⟩
        · exact ⟨.int 0, rfl, 0, rfl, by omega, by omega⟩
        · exact ⟨.int v, rfl, v, rfl, v0, v1⟩
      refine (got_app (l := le.map D.int) rfl (by rw [List.length_map, a1, sizeLine_eq]; omega) hv).imp fun f ⟨d, hf, v, hd, v0, v1⟩ => ?_
      subst hf hd
      obtain ⟨r, rfl⟩ := a3
      refine ⟨_, rfl, 0 :: r ++ [v], .imm (.int x), ?_, ?_, ?_, r ++ [v], rfl⟩
      · rw [List.map_append]
        rfl
      · rw [List.length_append, a1]
        simp
        omega
      · intro y hy
        rcases List.mem_append.mp hy with z | z
        · exact a2 y z
        · have : y = v := by simpa using z
          subst this
          exact ⟨v0, v1⟩
    refine (got_for (items := rangeD 1 many) (.of (fun g => by
      show M.opt (walkR [.int 1, .int many]) g = _
      rw [hr]
      rfl) rfl) hloop).imp fun f ⟨σ', hf, le, y, hσ, l1, l2, l3⟩ => ⟨σ', hf, le, y, hσ, ?_, l2, l3⟩
    rw [l1]
    unfold rangeD
    rw [List.length_map, List.length_range]
    omega
  · subst hσ
    refine Got.eq ?_ (funext fun g => exs_fz (l := le.map D.int) rfl)
    refine (got_ret (got_e (d := ruleD s t nd lb le) fun g => rfl)).imp fun f ⟨d, hf, hd⟩ => ⟨d, hf, s, t, nd, lb, le, hd, ⟨⟨s0, s1⟩, ⟨t0, t1⟩, ⟨n0, n1⟩, b0, b1, b2, l2, l1, l3⟩⟩
/-- a drawn protocol's rules -/
def Rules (many : Int) (rs : List D) : Prop := rs.length ≤ 4 ∧ ∀ d ∈ rs, ∃ s t nd lb le, d = ruleD s t nd lb le ∧ Rule many s t nd lb le
theorem e10 : Got ns.length (Φ 10 [.scr ns, .obj 0, .int 5, .int 4]) fun d => ∃ many rs, d = .tup [.int many, .tup rs] ∧ 2 ≤ many ∧ many ≤ 5 ∧ Rules many rs := by
  refine got_body (b := b10) (k := 2) (as := [.scr ns, .obj 0, .int 5, .int 4]) ?_
  refine got_asg (P := fun d => ∃ v, d = .int v ∧ 2 ≤ v ∧ v < 6) (got_op got_cst (got_call (fun g => rfl) (dr hl (by decide) (m := 4) (by omega) (by omega))) fun x y hx ⟨v, hy, v0, v1⟩ => by subst hx hy; exact ⟨_, rfl, 2 + v, rfl, by omega, by omega⟩) fun d ⟨many, hd, m0, m1⟩ => ?_
  subst hd
  refine ⟨[.imm (.scr ns), .imm (.obj 0), .imm (.int 5), .imm (.int 4), .imm (.int many), .un], rfl, ?_⟩
  refine (got_ret (got_tup (got_evs (got_e fun g => rfl) (got_evs (got_prim1 (Q := fun d => ∃ rs, d = .tup rs ∧ Rules many rs) (got_comp' (Q := Rules many) (got_rng1 (lo := 0) (hi := 5) (got_call (fun g => rfl) (dr hl (by decide) (m := 5) (by omega) (by omega))) (by omega) (by omega)) fun items ⟨v, hi, v0, v1⟩ => ?_) fun d ⟨l, hd, hq⟩ => by subst hd; exact ⟨.tup l, rfl, l, rfl, hq⟩) got_nil)))).imp fun f ⟨d, hf, ds, hd, d1, r1, e1, hd1, d2, r2, e2, ⟨rs, hrs, hR⟩, hr2⟩ => ?_
  · subst hi
    refine (got_compL (fun _ => True) (fun _ d => ∃ s t nd lb le, d = ruleD s t nd lb le ∧ Rule many s t nd lb le) (rangeD 0 v) fun d hd => ⟨[.imm (.scr ns), .imm (.obj 0), .imm (.int 5), .imm (.int 4), .imm (.int many), .imm d], rfl, .of (fun g => rfl) fun _ => trivial, fun _ => got_call (fun g => rfl) ?_⟩).imp fun ds ⟨ks, h1, h2, h3, h4⟩ => ⟨?_, fun d hd => ?_⟩
    · rw [upto_lt (by decide)]
      exact e9 hl (by omega) (by omega)
    · have := h1.length_le
      rw [range_len] at this
      omega
    · obtain ⟨i, hi⟩ := List.mem_iff_getElem?.mp hd
      have hlt : i < ks.length := by rw [← h3]; exact (List.getElem?_eq_some_iff.mp hi).1
      exact h4 i ks[i] d (List.getElem?_eq_getElem hlt) hi
  · subst hd e1 hd1 e2 hrs hr2
    exact ⟨_, hf, many, rs, rfl, by omega, by omega, hR⟩
/-- a drawn pattern -/
structure Pat (many most : Int) (l : List Int) : Prop where
  len : (l.length : Int) = many
  hd : ∃ r, l = 0 :: r
  pos : ∀ x ∈ l, 0 ≤ x
  lo : 1 ≤ l.sum
  hi : l.sum ≤ most
theorem sum_set : ∀ (l : List Int) (j : Nat) (a : Int), l[j]? = some a → (l.set j (a + 1)).sum = l.sum + 1
  | [], j, a, h => by simp at h
  | x :: l, 0, a, h => by
    simp at h
    subst h
    simp
    omega
  | x :: l, j + 1, a, h => by
    have := sum_set l j a (by simpa using h)
    simp
    omega
theorem e18 {many most : Int} (h2 : 2 ≤ many) (h5 : many ≤ 5) (m0 : 1 ≤ most) (m1 : most ≤ 9) : Got ns.length (Φ 18 [.scr ns, .obj 0, .int many, .int most]) fun d => ∃ l, d = .tup (l.map D.int) ∧ Pat many most l := by
  refine got_body (b := b18) (k := 2) (as := [.scr ns, .obj 0, .int many, .int most]) ?_
  have hrep : (List.replicate many.toNat [D.int 0]).flatten = (List.replicate many.toNat (0 : Int)).map D.int := by
    induction many.toNat with
    | zero => rfl
    | succ n ih => rw [List.replicate_succ, List.flatten_cons, ih, List.replicate_succ]; rfl
  refine Got.eq ?_ (funext fun g => exs_new (l := (List.replicate many.toNat (0 : Int)).map D.int) (g1 := g) (op_b (x := .lst [.int 0]) (y := .int many) rfl rfl (by
    show (if -1000 ≤ many ∧ many ≤ 1000 ∧ 1 ≤ 1000 then some (D.lst (List.replicate many.toNat [D.int 0]).flatten) else none) = _
    rw [if_pos (by omega), hrep])) (by show 4 < 6; omega))
  refine got_cons (P := fun σ' => ∃ (l : List Int) (y : Sl), σ' = [.imm (.scr ns), .imm (.obj 0), .imm (.int many), .imm (.int most), .ml (l.map D.int), y] ∧ Pat many most l) ?_ fun σ' ⟨l, y, hσ, hP⟩ => ?_
  · refine got_for' (got_rng1 (lo := 1) (hi := most + 1) (got_op got_cst (got_call (fun g => rfl) (dr hl (by decide) (m := most) (by omega) (by omega))) fun x y hx ⟨v, hy, v0, v1⟩ => by subst hx hy; exact ⟨_, rfl, 1 + v, rfl, by omega, by omega⟩) (by omega) (by omega)) fun items ⟨v, hv, v0, v1⟩ => ?_
    subst hv
    refine (got_loop (fun k σ' => ∃ (l : List Int) (y : Sl), σ' = [.imm (.scr ns), .imm (.obj 0), .imm (.int many), .imm (.int most), .ml (l.map D.int), y] ∧ (l.length : Int) = many ∧ (∃ r, l = 0 :: r) ∧ (∀ x ∈ l, 0 ≤ x) ∧ l.sum = k) (rangeD 0 v) 0 _ ⟨List.replicate many.toNat 0, .un, rfl, by rw [List.length_replicate]; omega, ?_, ?_, ?_⟩ fun i d σ' hi ⟨l, y, hσ, l1, l2, l3, l4⟩ => ?_).imp fun f ⟨σ', hf, l, y, hσ, l1, l2, l3, l4⟩ => ⟨σ', hf, l, y, hσ, l1, l2, l3, ?_, ?_⟩
    · obtain ⟨n, hn⟩ : ∃ n, many.toNat = n + 1 := ⟨many.toNat - 1, by omega⟩
      rw [hn, List.replicate_succ]
      exact ⟨_, rfl⟩
    · intro x hx
      rw [List.eq_of_mem_replicate hx]
      omega
    · induction many.toNat with
      | zero => rfl
      | succ n ih => rw [List.replicate_succ, List.sum_cons, ih]; rfl
    · subst hσ
      refine ⟨[.imm (.scr ns), .imm (.obj 0), .imm (.int many), .imm (.int most), .ml (l.map D.int), .imm d], rfl, ?_⟩
      obtain ⟨r, rfl⟩ := l2
      refine (got_augix (l := (0 :: r).map D.int) (K := fun n => 1 ≤ n ∧ n < many) (V := fun b => b = 1) rfl (got_op got_cst (got_call (fun g => rfl) (dr hl (by decide) (m := many - 1) (by omega) (by omega))) fun x y hx ⟨w, hy, w0, w1⟩ => by subst hx hy; exact ⟨_, rfl, 1 + w, rfl, by omega, by omega⟩) (got_cst.imp fun x hx => ⟨1, hx, rfl⟩) fun n ⟨q0, q1⟩ => ?_).imp fun f ⟨n, j, a, b, ⟨q0, q1⟩, hb, hj, ha, hf⟩ => ?_
      · have hlt : n.toNat < (0 :: r).length := by omega
        refine ⟨n.toNat, (0 :: r)[n.toNat], ?_, ?_⟩
        · unfold ixN
          rw [if_pos (by omega), if_pos (by rw [List.length_map]; omega)]
        · rw [List.getElem?_map, List.getElem?_eq_getElem hlt]
          rfl
      · subst hb hf
        have hj' : j = n.toNat := by
          unfold ixN at hj
          rw [if_pos (by omega), if_pos (by rw [List.length_map]; omega)] at hj
          exact (Option.some.inj hj).symm
        rw [List.getElem?_map] at ha
        obtain ⟨a', ha', e⟩ := Option.map_eq_some_iff.mp ha
        cases e
        refine ⟨_, rfl, (0 :: r).set j (a + 1), .imm d, ?_, by rw [List.length_set]; exact l1, ?_, ?_, ?_⟩
        · rw [List.map_set]
          rfl
        · obtain ⟨k, hk⟩ : ∃ k, j = k + 1 := ⟨j - 1, by omega⟩
          rw [hk]
          exact ⟨_, rfl⟩
        · intro x hx
          rcases List.mem_or_eq_of_mem_set hx with z | z
          · exact l3 x z
          · have := l3 a (List.mem_of_getElem? ha')
            omega
        · rw [sum_set hl _ _ _ ha', l4]
          omega
    · rw [l4, range_len]; omega
    · rw [l4, range_len]; omega
  · subst hσ
    refine Got.eq ?_ (funext fun g => exs_fz (l := l.map D.int) rfl)
    exact (got_ret (got_e (d := .tup (l.map D.int)) fun g => rfl)).imp fun f ⟨d, hf, hd⟩ => ⟨d, hf, l, hd, hP⟩
end
end K01
namespace K01
open PySem PySem.Spec L2 MC
def oddL : List D := [.non, .tup [.str "x"], .int (-1), .int 9, .lst [], .bl true]
def put1 (l : List D) (i : Nat) (o : D) : D := .tup (l.take i ++ [o] ++ l.drop (i + 1))
/-- what stands behind k places; sp: what spoils one place -/
def pre (sp : D → List D) (l : List D) : Nat → List D
  | 0 => []
  | k + 1 => pre sp l k ++ (oddL ++ sp (l.getD k .non)).map (put1 l k)
def spoil : Nat → D → List D
  | 0, _ => []
  | n + 1, .tup l => pre (spoil n) l l.length ++ [.lst l, .tup (l ++ [.non])]
  | _ + 1, _ => []
def spB (f : Nat) : List S := [.new 1 (.lst []), .ife (.not (.isi (.var 0) .tuple)) [.fz 1, .ret (.var 1)] [], .forr (.t [.n 2, .n 3]) (.enum (.var 0)) [.forr (.n 4) (.e (.op .add (.lst [.cst .non, .tup [.cst (.str "x")], .neg (.cst (.int 1)), .cst (.int 9), .lst [], .cst (.bl true)]) (.call f [.var 3]))) [.app 1 (.op .add (.op .add (.slc (.var 0) none (some (.var 2))) (.tup [.var 4])) (.slc (.var 0) (some (.op .add (.var 2) (.cst (.int 1)))) none))] []] [], .fz 1, .ret (.op .add (.var 1) (.lst [.prim .list [.var 0], .op .add (.var 0) (.tup [.cst .non])]))]
example : b12 = spB 11 := rfl
example : b17 = spB 16 := rfl
theorem pre_len {sp : D → List D} {l : List D} (h : ∀ d ∈ l, (sp d).length ≤ 10000) : ∀ k, k ≤ l.length → (pre sp l k).length ≤ k * 10006
  | 0, _ => Nat.le_refl _
  | k + 1, hk => by
    have ih := pre_len h k (by omega)
    have hg : (sp (l.getD k .non)).length ≤ 10000 := by
      rw [List.getD_eq_getElem?_getD, List.getElem?_eq_getElem (by omega)]
      exact h _ (List.getElem_mem _)
    show (pre sp l k ++ _).length ≤ _
    rw [List.length_append, List.length_map, List.length_append]
    have : oddL.length = 6 := rfl
    omega
section
variable {len fuel : Nat} {Φ' : Ph} {f : Nat}
theorem ev_put {l : List D} {acc : List D} {i : Nat} {one o : D} (hl : l.length ≤ 10) (g : G) : ev Φ' (.op .add (.op .add (.slc (.var 0) none (some (.var 2))) (.tup [.var 4])) (.slc (.var 0) (some (.op .add (.var 2) (.cst (.int 1)))) none)) [.imm (.tup l), .ml acc, .imm (.int (i : Nat)), .imm one, .imm o] g = some (.ok (put1 l i o), g) := by
  refine op_b (g1 := g) (x := .tup (l.take i ++ [o])) (y := .tup (l.drop (i + 1))) (op_b (g1 := g) (x := .tup (l.take i)) (y := .tup [o]) ?_ rfl ?_) ?_ ?_
  · show M.opt (some (D.tup (cutL l none (some (i : Int))))) g = _
    rw [cut_to]
    rfl
  · show (if (l.take i).length + [o].length ≤ sizeLine then some (D.tup (l.take i ++ [o])) else none) = _
    rw [if_pos (by rw [sizeLine_eq, List.length_take]; simp; omega)]
  · show M.opt (some (D.tup (cutL l (some ((i : Int) + 1)) none))) g = _
    rw [show ((i : Int) + 1) = ((i + 1 : Nat) : Int) by omega, cut_from]
    rfl
  · show (if (l.take i ++ [o]).length + (l.drop (i + 1)).length ≤ sizeLine then some (D.tup (l.take i ++ [o] ++ l.drop (i + 1))) else none) = _
    rw [if_pos (by rw [sizeLine_eq, List.length_append, List.length_take, List.length_drop]; simp; omega)]
    rfl
theorem sp_ok {sp : D → List D} {l : List D} (hl : l.length ≤ 10) (hs : ∀ d ∈ l, (sp d).length ≤ 10000) (hrec : ∀ d ∈ l, Got len (Φ' f [d]) fun x => x = .lst (sp d)) :
    Got len (body Φ' fuel (spB f) 4 [.tup l]) fun x => x = .lst (pre sp l l.length ++ [.lst l, .tup (l ++ [.non])]) := by
  refine got_body (b := spB f) (k := 4) (as := [.tup l]) ?_
  refine Got.eq ?_ (funext fun g => exs_new (l := []) (g1 := g) rfl (by show 1 < 5; omega))
  refine Got.eq ?_ (funext fun g => exs_ifN (g1 := g) rfl)
  refine got_cons (P := fun σ' => ∃ a b c, σ' = [.imm (.tup l), .ml (pre sp l l.length), a, b, c]) ?_ fun σ' ⟨a, b, c, hσ⟩ => ?_
  · refine got_for (items := enumFrom 0 l) (.of (fun g => rfl) rfl) ?_
    refine (got_loop (fun k σ' => ∃ a b c, σ' = [.imm (.tup l), .ml (pre sp l k), a, b, c]) (enumFrom 0 l) 0 _ ⟨.un, .un, .un, rfl⟩ fun i d σ' hi ⟨a, b, c, hσ⟩ => ?_).imp fun f ⟨σ', hf, a, b, c, hσ⟩ => ⟨σ', hf, a, b, c, by rw [hσ, enum_len]; simp⟩
    subst hσ
    rw [enum_get] at hi
    obtain ⟨one, h1, rfl⟩ := Option.map_eq_some_iff.mp hi
    have hlt : i < l.length := (List.getElem?_eq_some_iff.mp h1).1
    have hmem : one ∈ l := List.mem_of_getElem? h1
    have hgd : l.getD i .non = one := by rw [List.getD_eq_getElem?_getD, h1]; rfl
    refine ⟨[.imm (.tup l), .ml (pre sp l (0 + i)), .imm (.int ((0 + i : Nat) : Int)), .imm one, c], rfl, ?_⟩
    rw [Nat.zero_add]
    refine got_cons (P := fun σ' => ∃ c, σ' = [.imm (.tup l), .ml (pre sp l (i + 1)), .imm (.int (i : Nat)), .imm one, c]) ?_ fun σ' ⟨c, hσ⟩ => .of (fun g => exs_nil) ⟨σ', rfl, _, _, c, hσ⟩
    refine got_for (items := oddL ++ sp one) ?_ ?_
    · refine Got.eq ((got_op (o := .add) (R' := fun z => z = .lst (oddL ++ sp one)) (got_e (d := .lst oddL) fun g => rfl) (got_call (fun g => rfl) (hrec one hmem)) fun x y hx hy => ⟨_, ?_, rfl⟩).bind (f := fun x => M.opt (walkE x)) fun x hx => by subst hx; exact .opt rfl rfl) (by rw [evi])
      subst hx hy
      show (if oddL.length + (sp one).length ≤ sizeLine then some (D.lst (oddL ++ sp one)) else none) = _
      rw [if_pos (by have := hs one hmem; rw [sizeLine_eq]; show 6 + _ ≤ _; omega)]
    · refine (got_loop (fun k σ' => ∃ c, σ' = [.imm (.tup l), .ml (pre sp l i ++ ((oddL ++ sp one).take k).map (put1 l i)), .imm (.int (i : Nat)), .imm one, c]) (oddL ++ sp one) 0 _ ⟨c, by simp⟩ fun j o σ' hj ⟨c', hσ⟩ => ?_).imp fun f ⟨σ', hf, c', hσ⟩ => ⟨σ', hf, c', ?_⟩
      · subst hσ
        refine ⟨[.imm (.tup l), .ml (pre sp l i ++ ((oddL ++ sp one).take (0 + j)).map (put1 l i)), .imm (.int (i : Nat)), .imm one, .imm o], rfl, ?_⟩
        refine (got_app (l := pre sp l i ++ ((oddL ++ sp one).take (0 + j)).map (put1 l i)) rfl ?_ (got_e (d := put1 l i o) (ev_put hl))).imp fun f ⟨d, hf, hd⟩ => ⟨_, hf, .imm o, ?_⟩
        · have h1 := pre_len hs i (by omega)
          have h2 := hs one hmem
          rw [sizeLine_eq, List.length_append, List.length_map, List.length_take, List.length_append]
          have : oddL.length = 6 := rfl
          have : i * 10006 ≤ 10 * 10006 := Nat.mul_le_mul_right _ (by omega)
          omega
        · subst hd
          rw [Nat.zero_add, List.take_add_one, hj, List.map_append, ← List.append_assoc]
          rfl
      · rw [hσ, Nat.zero_add, List.take_length]
        show _ = [Sl.imm (.tup l), .ml (pre sp l i ++ (oddL ++ sp (l.getD i .non)).map (put1 l i)), _, _, _]
        rw [hgd]
  · subst hσ
    refine Got.eq ?_ (funext fun g => exs_fz (l := pre sp l l.length) rfl)
    refine (got_ret (got_e (d := .lst (pre sp l l.length ++ [.lst l, .tup (l ++ [.non])])) fun g => op_b (x := .lst (pre sp l l.length)) (y := .lst [.lst l, .tup (l ++ [.non])]) rfl ?_ ?_)).imp fun f ⟨d, hf, hd⟩ => ⟨d, hf, hd⟩
    · rw [ev, bind_ok (a := [.lst l, .tup (l ++ [.non])]) (g1 := g)]
      · rfl
      · refine evs_cons (g1 := g) rfl (evs_one (op_b (x := .tup l) (y := .tup [.non]) rfl rfl ?_))
        show (if l.length + 1 ≤ sizeLine then some (D.tup (l ++ [.non])) else none) = _
        rw [if_pos (by rw [sizeLine_eq]; omega)]
    · have h1 := pre_len hs l.length (Nat.le_refl _)
      show (if (pre sp l l.length).length + 2 ≤ sizeLine then some (D.lst (pre sp l l.length ++ [.lst l, .tup (l ++ [.non])])) else none) = _
      have : l.length * 10006 ≤ 10 * 10006 := Nat.mul_le_mul_right _ (by omega)
      rw [if_pos (by rw [sizeLine_eq]; omega)]
end
/-! ### the levels -/
/-- tuples of at most ten values, nested below n -/
def smal : Nat → D → Prop
  | _, .non => True
  | _, .bl _ => True
  | _, .int _ => True
  | _, .str _ => True
  | _, .lst _ => True
  | 0, .tup _ => False
  | n + 1, .tup l => l.length ≤ 10 ∧ ∀ d ∈ l, smal n d
  | _, _ => False
def spL : Nat → Nat
  | 0 => 0
  | n + 1 => 10 * (6 + spL n) + 2
theorem b_sp : ∀ k, k < 6 → F (12 + k) = fun Φ as => body Φ fuel (spB (11 + k)) 4 as
  | 0, _ => rfl
  | 1, _ => rfl
  | 2, _ => rfl
  | 3, _ => rfl
  | 4, _ => rfl
  | 5, _ => rfl
  | k + 6, h => by omega
theorem spL_pre {sp : D → List D} {l : List D} {m : Nat} (h : ∀ d ∈ l, (sp d).length ≤ m) : ∀ k, k ≤ l.length → (pre sp l k).length ≤ k * (6 + m)
  | 0, _ => by simp [pre]
  | k + 1, hk => by
    have ih := spL_pre h k (by omega)
    have hg : (sp (l.getD k .non)).length ≤ m := by
      rw [List.getD_eq_getElem?_getD, List.getElem?_eq_getElem (by omega)]
      exact h _ (List.getElem_mem _)
    show (pre sp l k ++ _).length ≤ _
    rw [List.length_append, List.length_map, List.length_append, Nat.succ_mul]
    have : oddL.length = 6 := rfl
    omega
theorem spL_len : ∀ (j k : Nat) (v : D), smal k v → (spoil j v).length ≤ spL k
  | 0, k, v, _ => Nat.zero_le _
  | j + 1, 0, v, h => by
    cases v <;> first | exact Nat.zero_le _ | exact h.elim
  | j + 1, k + 1, v, h => by
    cases v with
    | tup l =>
      have h1 := spL_pre (m := spL k) (fun d hd => spL_len j k d (h.2 d hd)) l.length (Nat.le_refl _)
      show (pre (spoil j) l l.length ++ _).length ≤ 10 * (6 + spL k) + 2
      rw [List.length_append]
      have h2 : l.length * (6 + spL k) ≤ 10 * (6 + spL k) := Nat.mul_le_mul_right _ h.1
      show _ + 2 ≤ _
      omega
    | _ => first | exact Nat.zero_le _ | exact h.elim
theorem sp_lv {len : Nat} : ∀ (k m : Nat) (v : D), k ≤ 5 → m ≤ 4 → m ≤ k → smal m v → Got len (Φ (12 + k) [v]) fun x => x = .lst (spoil (k + 1) v)
  | k, m, v, hk, hm, hmk, hv => by
    show Got len (F (12 + k) (upto F (12 + k)) [v]) _
    rw [b_sp k (by omega)]
    cases v with
    | tup l =>
      cases m with
      | zero => exact hv.elim
      | succ m =>
        cases k with
        | zero => omega
        | succ k =>
          refine sp_ok (sp := spoil (k + 1)) hv.1 (fun d hd => ?_) fun d hd => ?_
          · refine Nat.le_trans (spL_len (k + 1) m d (hv.2 d hd)) ?_
            have : m = 0 ∨ m = 1 ∨ m = 2 ∨ m = 3 := by omega
            rcases this with rfl | rfl | rfl | rfl <;> decide
          · rw [upto_lt (by omega), show 11 + (k + 1) = 12 + k by omega]
            exact sp_lv k m d (by omega) (by omega) (by omega) (hv.2 d hd)
    | non => exact .of (fun g => rfl) rfl
    | bl b => exact .of (fun g => rfl) rfl
    | int b => exact .of (fun g => rfl) rfl
    | str b => exact .of (fun g => rfl) rfl
    | lst b => exact .of (fun g => rfl) rfl
    | _ => cases m <;> exact hv.elim
end K01
namespace K01
open PySem PySem.Spec L2 MC
theorem exs_par {Φ : Ph} {fuel : Nat} {σ σ' : List Sl} {g g1 : G} {is : List Nat} {es : List E} {ds : List D} {r : List S} (h : evs Φ es σ g = some (.ok ds, g1)) (h2 : setAll is ds σ = some σ') : exs Φ fuel (.par is es :: r) σ g = exs Φ fuel r σ' g1 := exs_cons (by rw [ex, bind_ok h, h2]; rfl)
theorem cl23 {σ : List Sl} {es : List E} {p v r : D} {many : Int} {n k : Nat} {g : G} (hk : 23 < k) (hp : Prt p r many) (h : evs (upto F k) es σ g = some (.ok [p, v], g)) (hv : gd n v = true) : ev (upto F k) (.call 23 es) σ g = some (.ok (.bl (confB many v)), g) :=
  ev_call h (by rw [upto_lt hk]; exact e23 hp hv)
theorem cl25 {σ : List Sl} {es : List E} {p v r : D} {many : Int} {n k : Nat} {g : G} (hk : 25 < k) (hp : Prt p r many) (h : evs (upto F k) es σ g = some (.ok [p, v], g)) (hv : gd n v = true) : ev (upto F k) (.call 25 es) σ g = some (.ok (.bl (patB many v)), g) :=
  ev_call h (by rw [upto_lt hk]; exact e25 hp hv)
theorem cl27 {σ : List Sl} {es : List E} {p v r : D} {many : Int} {n k : Nat} {g : G} (hk : 27 < k) (hp : Prt p r many) (h : evs (upto F k) es σ g = some (.ok [p, v], g)) (hv : gd n v = true) : ev (upto F k) (.call 27 es) σ g = some (.ok (.bl (logB many v)), g) :=
  ev_call h (by rw [upto_lt hk]; exact e27 hp hv)
/-! ### depth -/
theorem gds_of {n : Nat} : ∀ {l : List D}, (∀ d ∈ l, gd n d = true) → gds n l = true
  | [], _ => by unfold gds; rfl
  | d :: l, h => by
    unfold gds
    rw [h d List.mem_cons_self, gds_of fun x hx => h x (List.mem_cons_of_mem _ hx)]
    rfl
theorem gd_lst {n : Nat} {l : List D} (h : gd n (.lst l) = true) : ∃ k, n = k + 1 ∧ gds k l = true := by
  cases n with
  | zero => unfold gd at h; cases h
  | succ k => unfold gd at h; exact ⟨k, rfl, h⟩
theorem gd_upL {n : Nat} {l : List D} (h : gds n l = true) : gd (n + 1) (.lst l) = true := by
  unfold gd
  exact h
theorem gd_mono : ∀ (n : Nat) (d : D), gd n d = true → gd (n + 1) d = true
  | n, .tup l, h => by
    obtain ⟨k, rfl, hk⟩ := gd_tup h
    exact gd_up (gds_of fun d hd => gd_mono k d (gds_mem hk hd))
  | n, .lst l, h => by
    obtain ⟨k, rfl, hk⟩ := gd_lst h
    exact gd_upL (gds_of fun d hd => gd_mono k d (gds_mem hk hd))
  | n, .non, _ => by unfold gd; rfl
  | n, .bl _, _ => by unfold gd; rfl
  | n, .int _, _ => by unfold gd; rfl
  | n, .str x, h => by unfold gd at h ⊢; exact h
  | n, .dct _ _, h => by unfold gd at h; cases h
  | n, .ins _ _ _, h => by unfold gd at h; cases h
  | n, .fn _, h => by unfold gd at h; cases h
  | n, .obj _, h => by unfold gd at h; cases h
  | n, .scr _, h => by unfold gd at h; cases h
theorem gd_le {n m : Nat} {d : D} (h : gd n d = true) (hm : n ≤ m) : gd m d = true := by
  induction hm with
  | refl => exact h
  | step _ ih => exact gd_mono _ _ ih
theorem gd_int {n : Nat} {i : Int} : gd n (.int i) = true := by unfold gd; rfl
theorem gds_int {n : Nat} {l : List Int} : gds n (l.map D.int) = true := gds_of fun d hd => by
  obtain ⟨i, _, rfl⟩ := List.mem_map.mp hd
  exact gd_int
theorem gd_ints {n : Nat} {l : List Int} : gd (n + 1) (.tup (l.map D.int)) = true := gd_up gds_int
theorem odd_mem {o : D} (h : o ∈ oddL) : o = .non ∨ o = .tup [.str "x"] ∨ o = .int (-1) ∨ o = .int 9 ∨ o = .lst [] ∨ o = .bl true := by
  simpa [oddL] using h
theorem odd_gd {o : D} (h : o ∈ oddL) : gd 1 o = true := by
  rcases odd_mem h with rfl | rfl | rfl | rfl | rfl | rfl <;> decide +kernel
theorem mem_pre {sp : D → List D} {l : List D} {o : D} : ∀ {k : Nat}, o ∈ pre sp l k → ∃ i d, i < k ∧ (d ∈ oddL ∨ d ∈ sp (l.getD i .non)) ∧ o = put1 l i d
  | 0, h => by simp [pre] at h
  | k + 1, h => by
    rcases List.mem_append.mp (show o ∈ pre sp l k ++ (oddL ++ sp (l.getD k .non)).map (put1 l k) from h) with h | h
    · obtain ⟨i, d, h1, h2, h3⟩ := mem_pre h
      exact ⟨i, d, by omega, h2, h3⟩
    · obtain ⟨d, hd, rfl⟩ := List.mem_map.mp h
      exact ⟨k, d, by omega, List.mem_append.mp hd, rfl⟩
theorem spoil_mem {k : Nat} {l : List D} {o : D} (h : o ∈ spoil (k + 1) (.tup l)) : (∃ i x d, l[i]? = some x ∧ (d ∈ oddL ∨ d ∈ spoil k x) ∧ o = put1 l i d) ∨ o = .lst l ∨ o = .tup (l ++ [.non]) := by
  rcases List.mem_append.mp (show o ∈ pre (spoil k) l l.length ++ [.lst l, .tup (l ++ [.non])] from h) with h | h
  · obtain ⟨i, d, h1, h2, h3⟩ := mem_pre h
    rw [List.getD_eq_getElem?_getD, List.getElem?_eq_getElem h1] at h2
    exact .inl ⟨i, l[i], d, List.getElem?_eq_getElem h1, h2, h3⟩
  · rcases List.mem_cons.mp h with h | h
    · exact .inr (.inl h)
    · exact .inr (.inr (by simpa using h))
theorem sp_gd : ∀ (k n : Nat) (v : D), gd n v = true → ∀ o ∈ spoil k v, gd (n + 1) o = true
  | 0, n, v, h, o, ho => by simp [spoil] at ho
  | k + 1, n, v, h, o, ho => by
    cases v with
    | tup l =>
      obtain ⟨m, rfl, hm⟩ := gd_tup h
      rcases spoil_mem ho with ⟨i, x, d, hx, hd, rfl⟩ | rfl | rfl
      · refine gd_up (gds_of fun y hy => ?_)
        rcases List.mem_append.mp hy with hy | hy
        · rcases List.mem_append.mp hy with hy | hy
          · exact gd_mono _ _ (gds_mem hm (List.mem_of_mem_take hy))
          · have : y = d := by simpa using hy
            subst this
            rcases hd with hd | hd
            · exact gd_le (odd_gd hd) (by omega)
            · exact sp_gd k m x (gds_mem hm (List.mem_of_getElem? hx)) y hd
        · exact gd_mono _ _ (gds_mem hm (List.mem_of_mem_drop hy))
      · exact gd_upL (gds_of fun y hy => gd_mono _ _ (gds_mem hm hy))
      · refine gd_up (gds_of fun y hy => ?_)
        rcases List.mem_append.mp hy with hy | hy
        · exact gd_mono _ _ (gds_mem hm hy)
        · have : y = .non := by simpa using hy
          subst this
          unfold gd
          rfl
    | _ => simp [spoil] at ho
/-! ### what is spoilt is refused -/
theorem sp_int {k : Nat} {i : Int} {o : D} (h : o ∈ spoil k (.int i)) : False := by cases k <;> simp [spoil] at h
theorem odd_betw {lo hi : Int} {o : D} (h0 : 0 ≤ lo) (h1 : hi ≤ 8) (h : o ∈ oddL) : betw lo hi o = false := by
  rcases odd_mem h with rfl | rfl | rfl | rfl | rfl | rfl
  · rfl
  · rfl
  · show (decide (lo ≤ -1) && decide (-1 ≤ hi)) = false
    rw [decide_eq_false (by omega)]
    rfl
  · show (decide (lo ≤ 9) && decide (9 ≤ hi)) = false
    rw [decide_eq_false (by omega : ¬ (9 : Int) ≤ hi), Bool.and_false]
  · rfl
  · rfl
theorem put_all {p : D → Bool} {l : List D} {i : Nat} {d : D} (h : p d = false) : (l.take i ++ [d] ++ l.drop (i + 1)).all p = false := by simp [h]
theorem end_all {p : D → Bool} {l : List D} {d : D} (h : p d = false) : (l ++ [d]).all p = false := by simp [h]
theorem sp_are {k : Nat} {lo hi : Int} {l : List Int} {o : D} (h0 : 0 ≤ lo) (h1 : hi ≤ 8) (h : o ∈ spoil k (.tup (l.map D.int))) : areB lo hi o = false := by
  cases k with
  | zero => simp [spoil] at h
  | succ k =>
    rcases spoil_mem h with ⟨i, x, d, hx, hd, rfl⟩ | rfl | rfl
    · rcases hd with hd | hd
      · exact put_all (odd_betw h0 h1 hd)
      · rw [List.getElem?_map] at hx
        obtain ⟨y, _, rfl⟩ := Option.map_eq_some_iff.mp hx
        exact (sp_int hd).elim
    · rfl
    · exact end_all rfl
theorem odd_are {lo hi : Int} {o : D} (h : o ∈ oddL) : areB lo hi o = false := by rcases odd_mem h with rfl | rfl | rfl | rfl | rfl | rfl <;> rfl
theorem are_bars {many : Int} {nd o : D} (h : areB 1 (many - 1) o = false) : barsB many nd o = false := by
  cases o with
  | tup l =>
    have h : l.all (betw 1 (many - 1)) = false := h
    show (l.all (betw 1 (many - 1)) && ascB l && !(l.any fun z => eqD z nd)) = false
    rw [h]
    rfl
  | _ => rfl
theorem are_eff {many : Int} {o : D} (h : areB 0 (many - 1) o = false) : effB many o = false := by
  cases o with
  | tup l =>
    have h : l.all (betw 0 (many - 1)) = false := h
    show (l.all (betw 0 (many - 1)) && decide ((l.length : Int) = many) && head0 l) = false
    rw [h]
    rfl
  | _ => rfl
theorem rule_f {many : Int} {s t nd b e : D} (h : areB 0 (many - 1) (.tup [s, t, nd]) = false ∨ barsB many nd b = false ∨ effB many e = false) : ruleB many (.tup [s, t, nd, b, e]) = false := by
  show (areB 0 (many - 1) (.tup [s, t, nd]) && barsB many nd b && effB many e) = false
  rcases h with h | h | h <;> rw [h] <;> simp
theorem odd_rule {many : Int} {o : D} (h : o ∈ oddL) : ruleB many o = false := by rcases odd_mem h with rfl | rfl | rfl | rfl | rfl | rfl <;> rfl
theorem sp_rule {k : Nat} {many s t nd : Int} {lb le : List Int} {o : D} (h5 : many ≤ 5) (h : o ∈ spoil k (ruleD s t nd lb le)) : ruleB many o = false := by
  cases k with
  | zero => simp [spoil] at h
  | succ k =>
    rcases spoil_mem h with ⟨i, x, d, hx, hd, rfl⟩ | rfl | rfl
    · match i, hx with
      | 0, hx =>
        cases (Option.some.inj hx : D.int s = x)
        rcases hd with hd | hd
        · exact rule_f (.inl (by show ([d, .int t, .int nd].all (betw 0 (many - 1))) = false; simp [odd_betw (show (0 : Int) ≤ 0 by omega) (show many - 1 ≤ 8 by omega) hd]))
        · exact (sp_int hd).elim
      | 1, hx =>
        cases (Option.some.inj hx : D.int t = x)
        rcases hd with hd | hd
        · exact rule_f (.inl (by show ([.int s, d, .int nd].all (betw 0 (many - 1))) = false; simp [odd_betw (show (0 : Int) ≤ 0 by omega) (show many - 1 ≤ 8 by omega) hd]))
        · exact (sp_int hd).elim
      | 2, hx =>
        cases (Option.some.inj hx : D.int nd = x)
        rcases hd with hd | hd
        · exact rule_f (.inl (by show ([.int s, .int t, d].all (betw 0 (many - 1))) = false; simp [odd_betw (show (0 : Int) ≤ 0 by omega) (show many - 1 ≤ 8 by omega) hd]))
        · exact (sp_int hd).elim
      | 3, hx =>
        cases (Option.some.inj hx : D.tup (lb.map D.int) = x)
        exact rule_f (.inr (.inl (are_bars (by
          rcases hd with hd | hd
          · exact odd_are hd
          · exact sp_are (by omega) (by omega) hd))))
      | 4, hx =>
        cases (Option.some.inj hx : D.tup (le.map D.int) = x)
        exact rule_f (.inr (.inr (are_eff (by
          rcases hd with hd | hd
          · exact odd_are hd
          · exact sp_are (by omega) (by omega) hd))))
      | i + 5, hx => simp at hx
    · rfl
    · rfl
theorem sp_rules {k : Nat} {many : Int} {rs : List D} {o : D} (h5 : many ≤ 5) (hr : ∀ d ∈ rs, ∃ s t nd lb le, d = ruleD s t nd lb le ∧ Rule many s t nd lb le) (h : o ∈ spoil k (.tup rs)) : rulesB many o = false := by
  have key : ∀ l : List D, l.all (ruleB many) = false → rulesB many (.tup l) = false := fun l hl => by
    show (decide (l.length ≤ 8) && l.all (ruleB many)) = false
    rw [hl, Bool.and_false]
  cases k with
  | zero => simp [spoil] at h
  | succ k =>
    rcases spoil_mem h with ⟨i, x, d, hx, hd, rfl⟩ | rfl | rfl
    · refine key _ (put_all ?_)
      obtain ⟨s, t, nd, lb, le, rfl, _⟩ := hr x (List.mem_of_getElem? hx)
      rcases hd with hd | hd
      · exact odd_rule hd
      · exact sp_rule h5 hd
    · rfl
    · exact key _ (end_all rfl)
/-! ### what is drawn is taken -/
theorem all_betw {lo hi : Int} {l : List Int} (h : ∀ x ∈ l, lo ≤ x ∧ x ≤ hi) : (l.map D.int).all (betw lo hi) = true := by
  rw [List.all_eq_true]
  intro d hd
  obtain ⟨x, hx, rfl⟩ := List.mem_map.mp hd
  obtain ⟨h1, h2⟩ := h x hx
  show (decide (lo ≤ x) && decide (x ≤ hi)) = true
  rw [decide_eq_true h1, decide_eq_true h2]
  rfl
theorem asc_of : ∀ {l : List Int}, l.Pairwise (· < ·) → ascB (l.map D.int) = true
  | [], _ => rfl
  | [a], _ => rfl
  | a :: b :: l, h => by
    obtain ⟨h1, h2⟩ := List.pairwise_cons.mp h
    show (decide (a < b) && ascB ((b :: l).map D.int)) = true
    rw [decide_eq_true (h1 b List.mem_cons_self), asc_of h2]
    rfl
theorem rule_ok {many s t nd : Int} {lb le : List Int} (h : Rule many s t nd lb le) : ruleB many (ruleD s t nd lb le) = true := by
  show (areB 0 (many - 1) (.tup ([s, t, nd].map D.int)) && barsB many (.int nd) (.tup (lb.map D.int)) && effB many (.tup (le.map D.int))) = true
  have h1 : areB 0 (many - 1) (.tup ([s, t, nd].map D.int)) = true := all_betw fun x hx => by
    have := h.hs
    have := h.ht
    have := h.hnd
    simp at hx
    rcases hx with rfl | rfl | rfl <;> omega
  have h2 : barsB many (.int nd) (.tup (lb.map D.int)) = true := by
    show ((lb.map D.int).all (betw 1 (many - 1)) && ascB (lb.map D.int) && !((lb.map D.int).any fun z => eqD z (.int nd))) = true
    rw [all_betw fun x hx => by have := h.hlb x hx; omega, asc_of h.asc]
    have : ((lb.map D.int).any fun z => eqD z (.int nd)) = false := by
      rw [List.any_eq_false]
      intro d hd
      obtain ⟨x, hx, rfl⟩ := List.mem_map.mp hd
      rw [eq_int, decide_eq_false (fun e : x = nd => h.no (by rw [← e]; exact hx))]
      exact Bool.false_ne_true
    rw [this]
    rfl
  have h3 : effB many (.tup (le.map D.int)) = true := by
    obtain ⟨r, rfl⟩ := h.hd
    show (((0 :: r).map D.int).all (betw 0 (many - 1)) && decide ((((0 :: r).map D.int).length : Int) = many) && head0 ((0 :: r).map D.int)) = true
    rw [all_betw fun x hx => by have := h.hle x hx; omega, decide_eq_true (by rw [List.length_map]; exact h.len)]
    rfl
  rw [h1, h2, h3]
  rfl
theorem rule_gd {s t nd : Int} {lb le : List Int} : gd 2 (ruleD s t nd lb le) = true := gd_up (gds_of fun d hd => by
  simp at hd
  rcases hd with rfl | rfl | rfl | rfl | rfl
  · exact gd_int
  · exact gd_int
  · exact gd_int
  · exact gd_ints
  · exact gd_ints)
theorem prt_of {many : Int} {rs : List D} (h2 : 2 ≤ many) (h5 : many ≤ 5) (hl : rs.length ≤ 8) (hr : ∀ d ∈ rs, ∃ s t nd lb le, d = ruleD s t nd lb le ∧ Rule many s t nd lb le) : Prt (.tup [.int many, .tup rs]) (.tup rs) many := by
  refine ⟨rfl, ?_, ?_⟩
  · show (betw 2 5 (.int many) && (decide (rs.length ≤ 8) && rs.all (ruleB many))) = true
    have h1 : betw 2 5 (.int many) = true := by
      show (decide (2 ≤ many) && decide (many ≤ 5)) = true
      rw [decide_eq_true h2, decide_eq_true h5]
      rfl
    have h3 : rs.all (ruleB many) = true := by
      rw [List.all_eq_true]
      intro d hd
      obtain ⟨s, t, nd, lb, le, rfl, h⟩ := hr d hd
      exact rule_ok h
    rw [h1, h3, decide_eq_true hl]
    rfl
  · refine gd_le (n := 4) (gd_up (gds_of fun d hd => ?_)) (by omega)
    simp at hd
    rcases hd with rfl | rfl
    · exact gd_int
    · refine gd_up (gds_of fun d hd => ?_)
      obtain ⟨s, t, nd, lb, le, rfl, h⟩ := hr d hd
      exact rule_gd
theorem prt_smal {many : Int} {rs : List D} (hl : rs.length ≤ 8) (hr : ∀ d ∈ rs, ∃ s t nd lb le, d = ruleD s t nd lb le ∧ Rule many s t nd lb le) (h5 : many ≤ 5) : smal 3 (.tup rs) := by
  refine ⟨by omega, fun d hd => ?_⟩
  obtain ⟨s, t, nd, lb, le, rfl, h⟩ := hr d hd
  have small : ∀ l : List Int, l.length ≤ 10 → smal 1 (.tup (l.map D.int)) := fun l hl => ⟨by rw [List.length_map]; exact hl, fun d hd => by
    obtain ⟨x, _, rfl⟩ := List.mem_map.mp hd
    trivial⟩
  refine ⟨by show 5 ≤ 10; omega, fun d hd => ?_⟩
  simp at hd
  rcases hd with rfl | rfl | rfl | rfl | rfl
  · trivial
  · trivial
  · trivial
  · refine small _ ?_
    refine few (n := 10) (h.asc.imp fun {a b} q z => by omega) fun q hq => ?_
    have := h.hlb q hq
    omega
  · refine small _ ?_
    have := h.len
    omega
theorem counts_of {many : Int} {l : List Int} (h : (l.length : Int) = many) (hp : ∀ x ∈ l, 0 ≤ x) : countsB many (.tup (l.map D.int)) = true := by
  show (decide (((l.map D.int).length : Int) = many) && (l.map D.int).all countB) = true
  rw [decide_eq_true (by rw [List.length_map]; exact h)]
  rw [Bool.true_and, List.all_eq_true]
  intro d hd
  obtain ⟨x, hx, rfl⟩ := List.mem_map.mp hd
  exact decide_eq_true (hp x hx)
theorem sum_of (l : List Int) : sumD (.tup (l.map D.int)) = l.sum := by
  have : asInts (l.map D.int) = some l := by
    induction l with
    | nil => rfl
    | cons a l ih =>
      show (asInts (l.map D.int)).map (a :: ·) = _
      rw [ih]
      rfl
  show (match asInts (l.map D.int) with
    | some ns => ns.sum
    | none => 0) = _
  rw [this]
theorem conf_of {many : Int} {l : List Int} (h : (l.length : Int) = many) (hp : ∀ x ∈ l, 0 ≤ x) (h1 : 1 ≤ l.sum) (h8 : l.sum ≤ 8) : confB many (.tup (l.map D.int)) = true := by
  unfold confB
  rw [counts_of h hp, sum_of, decide_eq_true h1, decide_eq_true h8]
  rfl
theorem pat_of {many : Int} {l : List Int} (h : Pat many 4 l) : patB many (.tup (l.map D.int)) = true := by
  show (countsB many (.tup (l.map D.int)) && (head0 (l.map D.int) && (decide (1 ≤ sumD (.tup (l.map D.int))) && decide (sumD (.tup (l.map D.int)) ≤ 4)))) = true
  rw [counts_of h.len h.pos, sum_of, decide_eq_true h.lo, decide_eq_true h.hi]
  obtain ⟨r, rfl⟩ := h.hd
  rfl
end K01
namespace K01
open PySem PySem.Spec L2 MC
/-! ### at the bounds -/
def zs (n : Int) (x : D) : List D := List.replicate n.toNat x
theorem mul_tup {x : D} {n : Int} (h0 : -10 ≤ n) (h1 : n ≤ 10) : opD .mul (.tup [x]) (.int n) = some (.tup (zs n x)) := by
  have hrep : (List.replicate n.toNat [x]).flatten = List.replicate n.toNat x := by
    induction n.toNat with
    | zero => rfl
    | succ n ih => rw [List.replicate_succ, List.flatten_cons, ih, List.replicate_succ]; rfl
  show (if -1000 ≤ n ∧ n ≤ 1000 ∧ [x].length ≤ 1000 then some (D.tup (List.replicate n.toNat [x]).flatten) else none) = _
  rw [if_pos (by simp; omega), hrep]
  rfl
theorem add_tup {a b : List D} (h : a.length + b.length ≤ 100) : opD .add (.tup a) (.tup b) = some (.tup (a ++ b)) := by
  show (if a.length + b.length ≤ sizeLine then some (D.tup (a ++ b)) else none) = _
  rw [if_pos (by rw [sizeLine_eq]; omega)]
theorem add_lst {a b : List D} (h : a.length + b.length ≤ 100) : opD .add (.lst a) (.lst b) = some (.lst (a ++ b)) := by
  show (if a.length + b.length ≤ sizeLine then some (D.lst (a ++ b)) else none) = _
  rw [if_pos (by rw [sizeLine_eq]; omega)]
theorem zs_len (n : Int) (x : D) : (zs n x).length = n.toNat := List.length_replicate
theorem five {many : Int} (h2 : 2 ≤ many) (h5 : many ≤ 5) : many = 2 ∨ many = 3 ∨ many = 4 ∨ many = 5 := by omega
theorem e28 {p r : D} {many : Int} {l : List Int} {g : G} (hp : Prt p r many) (h : Pat many 5 l) : Φ 28 [p, .tup (l.map D.int)] g = some (.ok (.bl true), g) := by
  obtain ⟨h2, h5⟩ := hp.pos
  have he := hp.eq
  have hc : confB many (.tup (l.map D.int)) = true := conf_of h.len h.pos h.lo (by have := h.hi; omega)
  have gc : gd 2 (.tup (l.map D.int)) = true := gd_ints
  refine body_ret (Φ := upto F 28) (fuel := fuel) (b := b28) (k := 4) (as := [p, .tup (l.map D.int)]) ?_
  show exs (upto F 28) fuel b28 [.imm p, .imm (.tup (l.map D.int)), .un, .un, .un, .un] g = _
  unfold b28
  rw [exs_asg (d := .int many) (σ' := [.imm p, .imm (.tup (l.map D.int)), .imm (.int many), .un, .un, .un]) (g1 := g) (by rw [he]; rfl) rfl]
  have z1 : ∀ (n : Int) (x : D) (σ : List Sl) (m : Int), σ[2]? = some (.imm (.int m)) → -5 ≤ m + n → m + n ≤ 10 → ev (upto F 28) (.op .mul (.tup [.cst x]) (.op .add (.var 2) (.cst (.int n)))) σ g = some (.ok (.tup (zs (m + n) x)), g) := fun n x σ m hs a b => by
    refine op_b (x := .tup [x]) (y := .int (m + n)) rfl ?_ (mul_tup (by omega) (by omega))
    refine op_b (x := .int m) (y := .int n) ?_ rfl rfl
    rw [ev]
    unfold slotD slot
    rw [List.getD_eq_getElem?_getD, hs]
    rfl
  have z2 : ∀ (n : Int) (x : D) (σ : List Sl) (m : Int), σ[2]? = some (.imm (.int m)) → -5 ≤ m - n → m - n ≤ 10 → ev (upto F 28) (.op .mul (.tup [.cst x]) (.op .sub (.var 2) (.cst (.int n)))) σ g = some (.ok (.tup (zs (m - n) x)), g) := fun n x σ m hs a b => by
    refine op_b (x := .tup [x]) (y := .int (m - n)) rfl ?_ (mul_tup (by omega) (by omega))
    refine op_b (x := .int m) (y := .int n) ?_ rfl rfl
    rw [ev]
    unfold slotD slot
    rw [List.getD_eq_getElem?_getD, hs]
    rfl
  have z3 : ∀ (x : D) (σ : List Sl) (m : Int), σ[2]? = some (.imm (.int m)) → -5 ≤ m → m ≤ 10 → ev (upto F 28) (.op .mul (.tup [.cst x]) (.var 2)) σ g = some (.ok (.tup (zs m x)), g) := fun x σ m hs a b => by
    refine op_b (x := .tup [x]) (y := .int m) rfl ?_ (mul_tup (by omega) (by omega))
    rw [ev]
    unfold slotD slot
    rw [List.getD_eq_getElem?_getD, hs]
    rfl
  have y2 : ∀ (a b : D) (σ : List Sl), σ[2]? = some (.imm (.int many)) → ev (upto F 28) (.op .add (.tup [.cst a, .cst b]) (.op .mul (.tup [.cst (.int 0)]) (.op .sub (.var 2) (.cst (.int 2))))) σ g = some (.ok (.tup ([a, b] ++ zs (many - 2) (.int 0))), g) := fun a b σ hs => by
    refine op_b (x := .tup [a, b]) (y := .tup (zs (many - 2) (.int 0))) rfl (z2 2 _ _ _ hs (by omega) (by omega)) (add_tup (by rw [zs_len]; show 2 + _ ≤ _; omega))
  have y1 : ∀ (σ : List Sl), σ[2]? = some (.imm (.int many)) → ev (upto F 28) (.op .add (.tup [.cst (.int 8)]) (.op .mul (.tup [.cst (.int 0)]) (.op .sub (.var 2) (.cst (.int 1))))) σ g = some (.ok (.tup ([.int 8] ++ zs (many - 1) (.int 0))), g) := fun σ hs => by
    refine op_b (x := .tup [.int 8]) (y := .tup (zs (many - 1) (.int 0))) rfl (z2 1 _ _ _ hs (by omega) (by omega)) (add_tup (by rw [zs_len]; show 1 + _ ≤ _; omega))
  have gdz : ∀ (a : List Int) (n : Int) (x : Int), gd 2 (.tup (a.map D.int ++ zs n (.int x))) = true := fun a n x => gd_up (gds_of fun d hd => by
    rcases List.mem_append.mp hd with hd | hd
    · obtain ⟨y, _, rfl⟩ := List.mem_map.mp hd
      exact gd_int
    · rw [List.eq_of_mem_replicate hd]
      exact gd_int)
  let ei : D := .tup ([.int 8] ++ zs (many - 1) (.int 0))
  let ni : D := .tup ([.int 0, .int 9] ++ zs (many - 2) (.int 0))
  have gei : gd 2 ei = true := gdz [8] _ 0
  have gni : gd 2 ni = true := gdz [0, 9] _ 0
  rw [exs_par (ds := [ei, ni]) (g1 := g) (σ' := [.imm p, .imm (.tup (l.map D.int)), .imm (.int many), .un, .imm ei, .imm ni]) (evs_cons (y1 _ rfl) (evs_one (y2 _ _ _ rfl))) rfl]
  let st : List D → List Sl := fun rows => [.imm p, .imm (.tup (l.map D.int)), .imm (.int many), .ml rows, .imm ei, .imm ni]
  have cA : ∀ (e : E) (v : D) (rows : List D), ev (upto F 28) e (st rows) g = some (.ok v, g) → gd 2 v = true → ev (upto F 28) (.call 23 [.var 0, e]) (st rows) g = some (.ok (.bl (confB many v)), g) := fun e v rows he hv => cl23 (by decide) hp (evs_cons (g1 := g) rfl (evs_one he)) hv
  have cB : ∀ (e : E) (v : D) (rows : List D), ev (upto F 28) e (st rows) g = some (.ok v, g) → gd 2 v = true → ev (upto F 28) (.call 25 [.var 0, e]) (st rows) g = some (.ok (.bl (patB many v)), g) := fun e v rows he hv => cl25 (by decide) hp (evs_cons (g1 := g) rfl (evs_one he)) hv
  have hnew : ev (upto F 28) (.lst [.call 23 [.var 0, .var 4], .call 23 [.var 0, .var 5]]) [.imm p, .imm (.tup (l.map D.int)), .imm (.int many), .un, .imm ei, .imm ni] g = some (.ok (.lst [.bl true, .bl false]), g) := by
    have a1 : confB many ei = true := by rcases five h2 h5 with e | e | e | e <;> (show confB many (.tup ([.int 8] ++ zs (many - 1) (.int 0))) = true; rw [e]; rfl)
    have a2 : confB many ni = false := by rcases five h2 h5 with e | e | e | e <;> (show confB many (.tup ([.int 0, .int 9] ++ zs (many - 2) (.int 0))) = false; rw [e]; rfl)
    rw [ev, bind_ok (a := [.bl true, .bl false]) (g1 := g)]
    · rfl
    · refine evs_cons (g1 := g) ?_ (evs_one ?_)
      · rw [← a1]
        exact cl23 (by decide) hp rfl gei
      · rw [← a2]
        exact cl23 (by decide) hp rfl gni
  rw [exs_new hnew (by show 3 < 6; omega)]
  have app : ∀ (e : E) (v : Bool) (rows : List D) (r : List S), rows.length ≤ 20 → ev (upto F 28) e (st rows) g = some (.ok (.bl v), g) → exs (upto F 28) fuel (.app 3 e :: r) (st rows) g = exs (upto F 28) fuel r (st (rows ++ [.bl v])) g := fun e v rows r hr he => exs_app (l := rows) rfl he (by rw [sizeLine_eq]; omega)
  show exs (upto F 28) fuel _ (st [.bl true, .bl false]) g = _
  have b1 : confB many (.tup (zs many (.int 0))) = false := by rcases five h2 h5 with e | e | e | e <;> (rw [e]; rfl)
  have b2 : confB many (.tup (zs (many + 1) (.int 1))) = false := by rcases five h2 h5 with e | e | e | e <;> (rw [e]; rfl)
  have b3 : patB many (.tup ([.int 0, .int 4] ++ zs (many - 2) (.int 0))) = true := by rcases five h2 h5 with e | e | e | e <;> (rw [e]; rfl)
  have b4 : patB many (.tup ([.int 0, .int 5] ++ zs (many - 2) (.int 0))) = false := by rcases five h2 h5 with e | e | e | e <;> (rw [e]; rfl)
  have b5 : patB many (.tup (zs many (.int 0))) = false := by rcases five h2 h5 with e | e | e | e <;> (rw [e]; rfl)
  have b6 : patB many (.tup ([.int 1, .int 1] ++ zs (many - 2) (.int 0))) = false := by rcases five h2 h5 with e | e | e | e <;> (rw [e]; rfl)
  rw [app _ false _ _ (by simp) (by rw [← b1]; exact cA _ _ _ (z3 _ _ _ rfl (by omega) (by omega)) (gdz [] _ 0))]
  rw [app _ false _ _ (by simp) (by rw [← b2]; exact cA _ _ _ (z1 1 _ _ _ rfl (by omega) (by omega)) (gdz [] _ 1))]
  rw [app _ true _ _ (by simp) (by rw [← b3]; exact cB _ _ _ (y2 _ _ _ rfl) (gdz [0, 4] _ 0))]
  rw [app _ false _ _ (by simp) (by rw [← b4]; exact cB _ _ _ (y2 _ _ _ rfl) (gdz [0, 5] _ 0))]
  rw [app _ false _ _ (by simp) (by rw [← b5]; exact cB _ _ _ (z3 _ _ _ rfl (by omega) (by omega)) (gdz [] _ 0))]
  rw [app _ false _ _ (by simp) (by rw [← b6]; exact cB _ _ _ (y2 _ _ _ rfl) (gdz [1, 1] _ 0))]
  rw [exs_fz (l := [.bl true, .bl false] ++ [.bl false] ++ [.bl false] ++ [.bl true] ++ [.bl false] ++ [.bl false] ++ [.bl false]) rfl]
  let rows8 : List D := [.bl true, .bl false, .bl false, .bl false, .bl true, .bl false, .bl false, .bl false]
  let σ8 : List Sl := [.imm p, .imm (.tup (l.map D.int)), .imm (.int many), .imm (.lst rows8), .imm ei, .imm ni]
  show exs (upto F 28) fuel _ σ8 g = _
  have all1 : ∀ n : Nat, (List.replicate n (D.tup (l.map D.int))).all (confB many) = true := fun n => by
    rw [List.all_eq_true]
    intro d hd
    rw [List.eq_of_mem_replicate hd]
    exact hc
  have l6 : logB many (.tup (zs 6 (.tup (l.map D.int)))) = true := by
    show (decide (6 ≤ 6) && ((List.replicate 6 (D.tup (l.map D.int))).all (confB many) && (List.replicate 6 (D.tup (l.map D.int))).all fun d => decide (sumD d = sumD (D.tup (l.map D.int))))) = true
    rw [all1, Bool.and_eq_true_iff]
    refine ⟨rfl, ?_⟩
    rw [Bool.true_and, List.all_eq_true]
    intro d hd
    rw [List.eq_of_mem_replicate hd]
    exact decide_eq_true rfl
  have l7 : logB many (.tup (zs 7 (.tup (l.map D.int)))) = false := rfl
  have gl : ∀ n : Nat, gd 3 (.tup (List.replicate n (.tup (l.map D.int)))) = true := fun n => gd_up (gds_of fun d hd => by
    rw [List.eq_of_mem_replicate hd]
    exact gc)
  have cC : ∀ (n : Int), -5 ≤ n → n ≤ 10 → ev (upto F 28) (.call 27 [.var 0, .op .mul (.tup [.var 1]) (.cst (.int n))]) σ8 g = some (.ok (.bl (logB many (.tup (zs n (.tup (l.map D.int)))))), g) := fun n n0 n1 => cl27 (by decide) hp (evs_cons (g1 := g) rfl (evs_one (op_b (g1 := g) (x := .tup [.tup (l.map D.int)]) (y := .int n) rfl rfl (mul_tup (by omega) (by omega))))) (gl _)
  have hnew2 : ev (upto F 28) (.op .add (.var 3) (.lst [.call 27 [.var 0, .op .mul (.tup [.var 1]) (.cst (.int 6))], .call 27 [.var 0, .op .mul (.tup [.var 1]) (.cst (.int 7))], .call 27 [.var 0, .tup []]])) σ8 g = some (.ok (.lst (rows8 ++ [.bl true, .bl false, .bl false])), g) := by
    refine op_b (g1 := g) (x := .lst rows8) (y := .lst [.bl true, .bl false, .bl false]) rfl ?_ rfl
    rw [ev, bind_ok (a := [.bl true, .bl false, .bl false]) (g1 := g)]
    · rfl
    · refine evs_cons (g1 := g) ?_ (evs_cons (g1 := g) ?_ (evs_one ?_))
      · rw [← l6]
        exact cC 6 (by omega) (by omega)
      · rw [← l7]
        exact cC 7 (by omega) (by omega)
      · exact cl27 (k := 28) (n := 3) (v := .tup []) (σ := σ8) (es := [.var 0, .tup []]) (g := g) (by decide) hp rfl (by decide +kernel)
  rw [exs_new hnew2 (by show 3 < 6; omega)]
  show exs (upto F 28) fuel _ (st (rows8 ++ [.bl true, .bl false, .bl false])) g = _
  let se : D := .tup ([.int 7, .int 0] ++ zs (many - 2) (.int 0))
  have l8 : logB many (.tup [ei, se]) = false := by rcases five h2 h5 with e | e | e | e <;> (show logB many (.tup [.tup ([.int 8] ++ zs (many - 1) (.int 0)), .tup ([.int 7, .int 0] ++ zs (many - 2) (.int 0))]) = false; rw [e]; rfl)
  rw [app _ false _ _ (by simp [rows8]) (by
    rw [← l8]
    refine cl27 (n := 3) (by decide) hp (evs_cons (g1 := g) rfl (evs_one ?_)) (gd_up (gds_of fun d hd => ?_))
    · rw [ev, bind_ok (a := [ei, se]) (g1 := g)]
      · rfl
      · exact evs_cons (g1 := g) rfl (evs_one (y2 _ _ _ rfl))
    · simp at hd
      rcases hd with rfl | rfl
      · exact gei
      · exact gdz [7, 0] _ 0)]
  rw [exs_fz (l := rows8 ++ [.bl true, .bl false, .bl false] ++ [.bl false]) rfl]
  exact exs_ret rfl
end K01
namespace K01
open PySem PySem.Spec L2 MC
section
variable {len : Nat} {Φ : Ph} {fuel : Nat} {σ : List Sl}
theorem got_new {i : Nat} {e : E} {r : List S} {P : List D → Prop} {Q : Flow' → Prop} (h : Got len (ev Φ e σ) fun d => ∃ l, d = .lst l ∧ P l) (hi : i < σ.length) (h2 : ∀ l, P l → Got len (exs Φ fuel r (σ.set i (.ml l))) Q) : Got len (exs Φ fuel (.new i e :: r) σ) Q := fun g hg => by
  obtain ⟨d, g1, e1, ⟨l, rfl, pl⟩, hg1⟩ := h g hg
  obtain ⟨a, g2, e2, q, hg2⟩ := h2 l pl g1 hg1
  exact ⟨a, g2, by rw [exs_new e1 hi]; exact e2, q, hg2⟩
theorem got_ifN {c : E} {a r : List S} {Q : Flow' → Prop} (h : Got len (ev Φ c σ) fun d => d = .bl false) (h2 : Got len (exs Φ fuel r σ) Q) : Got len (exs Φ fuel (.ife c a [] :: r) σ) Q := fun g hg => by
  obtain ⟨d, g1, e1, rfl, hg1⟩ := h g hg
  obtain ⟨x, g2, e2, q, hg2⟩ := h2 g1 hg1
  exact ⟨x, g2, by rw [exs_ifN e1]; exact e2, q, hg2⟩
theorem got_end : Got len (exs Φ fuel [] σ) fun f => f = .next σ := .of (fun g => exs_nil) rfl
end
/-- not is(e, y) -/
theorem nis {e : E} {σ : List Sl} {g : G} {x y : Bool} (h : ev (upto F 29) e σ g = some (.ok (.bl x), g)) : ev (upto F 29) (.not (.call 2 [e, .cst (.bl y)])) σ g = some (.ok (.bl (!(x == y))), g) :=
  not_b (ev_call (ds := [.bl x, .bl y]) (evs_cons h (evs_one rfl)) (by rw [upto_lt (by decide)]; exact e2))
theorem sp17 {len m : Nat} {v : D} {σ : List Sl} {e : E} (hm : m ≤ 4) (hv : smal m v) (he : ∀ g, ev (upto F 29) e σ g = some (.ok v, g)) : Got len (evi (upto F 29) (.e (.call 17 [e])) σ) fun x => x = spoil 6 v := by
  have h := got_call (len := len) (Φ := upto F 29) (f := 17) (es := [e]) (σ := σ) (ds := [v]) (P := fun x => x = .lst (spoil 6 v)) (fun g => evs_one (he g)) (by rw [upto_lt (by decide)]; exact sp_lv 5 m v (by omega) hm (by omega) hv)
  exact Got.eq (h.bind (f := fun x => M.opt (walkE x)) fun d hd => by subst hd; exact .opt rfl rfl) (by rw [evi])
theorem got_evt {len : Nat} {Φ : Ph} {c : E} {σ : List Sl} {t : Bool} {g : G} (h : ev Φ c σ g = some (.ok (.bl t), g)) : evt Φ [c] σ g = some (.ok t, g) := by
  rw [evt, bind_ok h]
  rfl
theorem got_evi {len : Nat} {Φ : Ph} {e : E} {σ : List Sl} {l : List D} (h : ∀ g, ev Φ e σ g = some (.ok (.lst l), g)) : Got len (evi Φ (.e e) σ) fun x => x = l := .of (fun g => by rw [evi, bind_ok (h g)]; rfl) rfl
theorem slc_ok {o : D} {lo hi : Option Int} {n : Nat} (h : gd n o = true) (hs : (∃ l, o = .tup l) ∨ ∃ l, o = .lst l) : ∃ x, slOf o lo hi = some x ∧ gd n x = true := by
  rcases hs with ⟨l, rfl⟩ | ⟨l, rfl⟩
  · obtain ⟨k, rfl, hk⟩ := gd_tup h
    exact ⟨_, rfl, gd_up (gds_of fun d hd => gds_mem hk (List.mem_of_mem_drop (List.mem_of_mem_take hd)))⟩
  · obtain ⟨k, rfl, hk⟩ := gd_lst h
    exact ⟨_, rfl, gd_upL (gds_of fun d hd => gds_mem hk (List.mem_of_mem_drop (List.mem_of_mem_take hd)))⟩
theorem sp_seq {k : Nat} {l : List D} {o : D} (h : o ∈ spoil k (.tup l)) : (∃ l, o = .tup l) ∨ ∃ l, o = .lst l := by
  cases k with
  | zero => simp [spoil] at h
  | succ k =>
    rcases spoil_mem h with ⟨i, x, d, hx, hd, rfl⟩ | rfl | rfl
    · exact .inl ⟨_, rfl⟩
    · exact .inr ⟨_, rfl⟩
    · exact .inl ⟨_, rfl⟩
/-- what a spoilt protocol begins with: if 9, then it is none -/
theorem sp_prot {k : Nat} {many : Int} {rs : D} {o : D} (h2 : 2 ≤ many) (h5 : many ≤ 5) (h : o ∈ spoil k (.tup [.int many, rs])) : ∃ d, ixOf o (.int 0) = some d ∧ gd 1 d = true ∧ (eqD d (.int 9) = true → protB o = false) := by
  have no : ∀ l : List D, ixOf (.tup (.int many :: l)) (.int 0) = some (.int many) := fun l => at0 _ _
  have ne : ∀ p : Prop, eqD (.int many) (.int 9) = true → p := fun p h => by
    rw [eq_int] at h
    have := of_decide_eq_true h
    omega
  cases k with
  | zero => simp [spoil] at h
  | succ k =>
    rcases spoil_mem h with ⟨i, x, d, hx, hd, rfl⟩ | rfl | rfl
    · match i, hx with
      | 0, hx =>
        cases (Option.some.inj hx : D.int many = x)
        rcases hd with hd | hd
        · refine ⟨d, at0 _ _, odd_gd hd, fun _ => ?_⟩
          have hb := odd_betw (lo := 2) (hi := 5) (by omega) (by omega) hd
          show protB (.tup [d, rs]) = false
          cases d with
          | int m =>
            show (betw 2 5 (.int m) && rulesB m rs) = false
            rw [hb]
            rfl
          | _ => rfl
        · exact (sp_int hd).elim
      | 1, hx => exact ⟨.int many, no [d], gd_int, ne _⟩
      | i + 2, hx => simp at hx
    · exact ⟨.int many, at0 _ _, gd_int, ne _⟩
    · exact ⟨.int many, no _, gd_int, ne _⟩
/-- a spoilt configuration -/
theorem sp_conf {k : Nat} {many : Int} {l : List Int} {o : D} (h : o ∈ spoil k (.tup (l.map D.int))) : confB many o = false ∨ ∃ l', o = .tup l' ∧ D.int 9 ∈ l' := by
  have key : ∀ l : List D, l.all countB = false → confB many (.tup l) = false := fun l hl => by
    show ((decide ((l.length : Int) = many) && l.all countB) && _) = false
    rw [hl, Bool.and_false]
    rfl
  cases k with
  | zero => simp [spoil] at h
  | succ k =>
    rcases spoil_mem h with ⟨i, x, d, hx, hd, rfl⟩ | rfl | rfl
    · rcases hd with hd | hd
      · rcases odd_mem hd with rfl | rfl | rfl | rfl | rfl | rfl
        · exact .inl (key _ (put_all rfl))
        · exact .inl (key _ (put_all rfl))
        · exact .inl (key _ (put_all rfl))
        · exact .inr ⟨_, rfl, by simp⟩
        · exact .inl (key _ (put_all rfl))
        · exact .inl (key _ (put_all rfl))
      · rw [List.getElem?_map] at hx
        obtain ⟨y, _, rfl⟩ := Option.map_eq_some_iff.mp hx
        exact (sp_int hd).elim
    · exact .inl rfl
    · exact .inl (key _ (end_all rfl))
section
variable {ns : List Int} (hl : ns.length ≤ 63)
/-- the frame -/
def st (ns : List Int) (a b c d e f : Sl) : List Sl := [.imm (.scr ns), .imm (.obj 0), a, b, c, d, e, f]
def b29L : List S := match b29 with
  | [_, .forr _ _ b _, _] => b
  | _ => []
include hl
theorem turn {a b c d e f : Sl} : Got ns.length (exs (upto F 29) fuel b29L (st ns a b c d e f)) fun fl => ∃ a b c d e f, fl = .next (st ns a b c d e f) := by
  show Got ns.length (exs (upto F 29) fuel (.asg (.n 3) (.call 10 [.var 0, .var 1, .cst (.int 5), .cst (.int 4)]) :: _) (st ns a b c d e f)) _
  refine got_asg (P := fun d => ∃ many rs, d = .tup [.int many, .tup rs] ∧ 2 ≤ many ∧ many ≤ 5 ∧ Rules many rs) (got_call (fun g => rfl) (by rw [upto_lt (by decide)]; exact e10 hl)) fun p ⟨many, rs, hp, h2, h5, hR⟩ => ?_
  obtain ⟨hrl, hr⟩ := hR
  have P := prt_of h2 h5 (by omega) hr
  rw [← hp] at P
  refine ⟨st ns a (.imm p) c d e f, rfl, ?_⟩
  -- is_protocol(value=protocol)
  refine got_ifN (got_e fun g => ?_) ?_
  · have : ev (upto F 29) (.callk 7 [] [("value", .var 3)] [0]) (st ns a (.imm p) c d e f) g = some (.ok (.bl true), g) := by
      show (M.bind (M.pure [p]) fun as => upto F 29 7 as) g = _
      rw [M.pure_bind, upto_lt (by decide)]
      exact (e7 (n := 10) (by omega) P.gd).trans (by rw [P.ok])
    exact nis this
  -- odds
  have sm : smal 3 (.tup rs) := prt_smal (by omega) hr h5
  have smp : smal 4 p := by
    rw [hp]
    refine ⟨by show 2 ≤ 10; omega, fun d hd => ?_⟩
    simp at hd
    rcases hd with rfl | rfl
    · trivial
    · exact sm
  refine got_new (i := 4) (P := fun l => ∀ o ∈ l, o ∈ spoil 6 p) (got_comp' (sp17 (m := 4) (by omega) smp fun g => rfl) fun items hi => ?_) (by show 4 < 8; omega) fun odds ho => ?_
  · classical
    subst hi
    have key : ∀ o ∈ spoil 6 p, ∃ t : Bool, ∀ g, evt (upto F 29) [.op .ne (.slc (.var 5) (some (.cst (.int 1))) none) (.slc (.var 3) (some (.cst (.int 1))) none)] (st ns a (.imm p) c (.imm o) e f) g = some (.ok t, g) := fun o ho => by
      obtain ⟨x, hx, gx⟩ := slc_ok (lo := some 1) (hi := none) (sp_gd 6 10 p P.gd o ho) (by rw [hp] at ho; exact sp_seq ho)
      obtain ⟨y, hy, gy⟩ := slc_ok (lo := some 1) (hi := none) P.gd (.inl ⟨_, hp⟩)
      refine ⟨!eqD x y, fun g => got_evt (len := ns.length) (op_b (g1 := g) (x := x) (y := y) ?_ ?_ (op_ne (gd_ok gx (by omega)) (gd_ok gy (by omega))))⟩
      · show M.opt (slOf o (some 1) none) g = _
        rw [hx]
        rfl
      · show M.opt (slOf p (some 1) none) g = _
        rw [hy]
        rfl
    let t : D → Bool := fun o => if h : o ∈ spoil 6 p then (key o h).choose else false
    refine .of (a := ((spoil 6 p).filter t).map fun d => d) (fun g => comp_pure (tg := .n 5) (σ := st ns a (.imm p) c .un e f) (fun d => d) t (spoil 6 p) fun o ho => ⟨st ns a (.imm p) c (.imm o) e f, rfl, ?_, fun _ => rfl⟩) fun o ho => ?_
    · have := (key o ho).choose_spec g
      show evt (upto F 29) _ _ g = some (.ok (if h : o ∈ spoil 6 p then (key o h).choose else false), g)
      rw [dif_pos ho]
      exact this
    · rw [List.map_id'] at ho
      exact (List.mem_filter.mp ho).1
  refine Got.eq ?_ (funext fun g => exs_fz (l := odds) rfl)
  show Got ns.length (exs (upto F 29) fuel _ (st ns a (.imm p) (.imm (.lst odds)) d e f)) _
  refine got_ifN (got_e fun g => ?_) ?_
  · have h1 : ev (upto F 29) (.comp (.var 5) (.n 5) [5] (.e (.var 4)) [.and [.op .eq (.idx (.var 5) (.cst (.int 0))) (.cst (.int 9)), .not (.call 2 [.call 7 [.var 5], .cst (.bl false)])]]) (st ns a (.imm p) (.imm (.lst odds)) d e f) g = some (.ok (.lst (odds.filter fun _ => false)), g) := by
      refine ev_filter (fun _ => false) (by show 5 < 8; omega) rfl fun o ho' => ?_
      have hos := ho o ho'
      obtain ⟨x, hx, gx, hn⟩ := sp_prot h2 h5 (by rw [hp] at hos; exact hos)
      show evt (upto F 29) _ (st ns a (.imm p) (.imm (.lst odds)) (.imm o) e f) g = _
      have q1 : ev (upto F 29) (.op .eq (.idx (.var 5) (.cst (.int 0))) (.cst (.int 9))) (st ns a (.imm p) (.imm (.lst odds)) (.imm o) e f) g = some (.ok (.bl (eqD x (.int 9))), g) := by
        refine op_b (x := x) (y := .int 9) ?_ rfl (op_eq (gd_ok gx (by omega)) rfl)
        show M.opt (ixOf o (.int 0)) g = _
        rw [hx]
        rfl
      refine got_evt (len := ns.length) ?_
      cases hc : eqD x (.int 9) with
      | false =>
        rw [hc] at q1
        exact and_f q1
      | true =>
        rw [hc] at q1
        refine and_t q1 (and_1 ?_)
        have := nis (σ := st ns a (.imm p) (.imm (.lst odds)) (.imm o) e f) (g := g) (e := .call 7 [.var 5]) (x := false) (y := false) (ev_call (ds := [o]) rfl (by rw [upto_lt (by decide)]; exact (e7 (n := 11) (by omega) (sp_gd 6 10 p P.gd o hos)).trans (by rw [hn hc])))
        exact this
    refine op_b (x := .lst (odds.filter fun _ => false)) (y := .lst []) h1 rfl ?_
    have : (odds.filter fun _ => false) = [] := by simp
    rw [this]
    rfl
  -- for odd in spoilt(protocol[1])
  refine got_cons (P := fun σ' => ∃ d, σ' = st ns a (.imm p) (.imm (.lst odds)) d e f) ?_ fun σ' ⟨d', hσ⟩ => ?_
  · refine got_for' (sp17 (m := 3) (by omega) sm fun g => by rw [hp]; rfl) fun items hi => ?_
    subst hi
    refine (got_loop (fun _ σ' => ∃ d, σ' = st ns a (.imm p) (.imm (.lst odds)) d e f) _ 0 _ ⟨d, rfl⟩ fun i o σ' hi ⟨d'', hσ⟩ => ?_).imp fun fl ⟨σ', h1, h2⟩ => ⟨σ', h1, h2⟩
    subst hσ
    have hos := List.mem_of_getElem? hi
    refine ⟨st ns a (.imm p) (.imm (.lst odds)) (.imm o) e f, rfl, ?_⟩
    refine got_ifN (got_e fun g => ?_) (got_end.imp fun fl hfl => ⟨_, hfl, _, rfl⟩)
    have gr : gd 9 (.tup rs) = true := by
      have := P.gd
      rw [hp] at this
      obtain ⟨k, hk, hg⟩ := gd_tup this
      have : k = 9 := by omega
      subst this
      exact gds_mem hg (by simp)
    have := nis (σ := st ns a (.imm p) (.imm (.lst odds)) (.imm o) e f) (g := g) (e := .call 7 [.tup [.idx (.var 3) (.cst (.int 0)), .var 5]]) (x := false) (y := false) (ev_call (ds := [.tup [.int many, o]]) (by rw [hp]; rfl) (by
      rw [upto_lt (by decide)]
      refine (e7 (n := 11) (by omega) (gd_up (gds_of fun y hy => ?_))).trans ?_
      rotate_left
      · show some (R.ok (D.bl (betw 2 5 (.int many) && rulesB many o)), g) = _
        rw [sp_rules h5 hr hos, Bool.and_false]
      · simp at hy
        rcases hy with rfl | rfl
        · exact gd_int
        · exact sp_gd 6 9 _ gr _ hos))
    exact this
  subst hσ
  -- configuration
  refine got_asg (P := fun d => ∃ l, d = .tup (l.map D.int) ∧ Pat many 5 l) (got_call (ds := [.scr ns, .obj 0, .int many, .int 5]) (fun g => by rw [hp]; rfl) (by rw [upto_lt (by decide)]; exact e18 hl h2 h5 (by omega) (by omega))) fun cf ⟨l, hcf, hP⟩ => ?_
  refine ⟨st ns a (.imm p) (.imm (.lst odds)) d' (.imm cf) f, rfl, ?_⟩
  have ll : l.length ≤ 10 := by have := hP.len; omega
  have gcf : gd 2 cf = true := by rw [hcf]; exact gd_ints
  have smc : smal 1 cf := by
    rw [hcf]
    refine ⟨by rw [List.length_map]; exact ll, fun d hd => ?_⟩
    obtain ⟨x, _, rfl⟩ := List.mem_map.mp hd
    trivial
  refine got_cons (P := fun σ' => ∃ d, σ' = st ns a (.imm p) (.imm (.lst odds)) d (.imm cf) f) ?_ fun σ' ⟨d'', hσ⟩ => ?_
  · refine got_for' (sp17 (m := 1) (by omega) smc fun g => rfl) fun items hi => ?_
    subst hi
    refine (got_loop (fun _ σ' => ∃ d, σ' = st ns a (.imm p) (.imm (.lst odds)) d (.imm cf) f) _ 0 _ ⟨d', rfl⟩ fun i o σ' hi ⟨d'', hσ⟩ => ?_).imp fun fl ⟨σ', h1, h2⟩ => ⟨σ', h1, h2⟩
    subst hσ
    have hos := List.mem_of_getElem? hi
    have go := sp_gd 6 2 _ gcf _ hos
    refine ⟨st ns a (.imm p) (.imm (.lst odds)) (.imm o) (.imm cf) f, rfl, ?_⟩
    refine got_ifN (got_e fun g => ?_) (got_end.imp fun fl hfl => ⟨_, hfl, _, rfl⟩)
    have hsq : (∃ l, o = .tup l) ∨ ∃ l, o = .lst l := by rw [hcf] at hos; exact sp_seq hos
    obtain ⟨x, hx, gx⟩ := slc_ok (lo := none) (hi := some (-1)) go hsq
    have q1 : ev (upto F 29) (.op .ne (.slc (.var 5) none (some (.neg (.cst (.int 1))))) (.var 6)) (st ns a (.imm p) (.imm (.lst odds)) (.imm o) (.imm cf) f) g = some (.ok (.bl (!eqD x cf)), g) := by
      refine op_b (x := x) (y := cf) ?_ rfl (op_ne (gd_ok gx (by omega)) (gd_ok gcf (by omega)))
      show M.opt (slOf o none (some (-1))) g = _
      rw [hx]
      rfl
    have q3 : ev (upto F 29) (.not (.call 2 [.call 23 [.var 3, .var 5], .cst (.bl false)])) (st ns a (.imm p) (.imm (.lst odds)) (.imm o) (.imm cf) f) g = some (.ok (.bl (!(confB many o == false))), g) := nis (cl23 (by decide) P rfl go)
    have q2 : ∃ t : Bool, ev (upto F 29) (.op .nmem (.cst (.int 9)) (.var 5)) (st ns a (.imm p) (.imm (.lst odds)) (.imm o) (.imm cf) f) g = some (.ok (.bl t), g) ∧ (t = true → confB many o = false) := by
      rcases hsq with ⟨l', e'⟩ | ⟨l', e'⟩
      · refine ⟨!(l'.any fun z => eqD z (.int 9)), op_b (x := .int 9) (y := o) rfl rfl ?_, fun ht => ?_⟩
        · rw [e'] at go ⊢
          show (if ((D.int 9).sh && (D.tup l').sh) = true then some (l'.any fun z => eqD z (.int 9)) else none).map (fun c => D.bl (!c)) = _
          rw [gd_ok go (by omega), sh_int]
          rfl
        · rw [hcf] at hos
          rcases sp_conf (many := many) hos with z | ⟨l'', e'', hm⟩
          · exact z
          · rw [e'] at e''
            cases e''
            have : (l'.any fun z => eqD z (.int 9)) = true := List.any_eq_true.mpr ⟨_, hm, by rw [eq_int]; rfl⟩
            rw [this] at ht
            cases ht
      · refine ⟨!(l'.any fun z => eqD z (.int 9)), op_b (x := .int 9) (y := o) rfl rfl ?_, fun _ => by rw [e']; rfl⟩
        rw [e'] at go ⊢
        show (if ((D.int 9).sh && (D.lst l').sh) = true then some (l'.any fun z => eqD z (.int 9)) else none).map (fun c => D.bl (!c)) = _
        rw [gd_ok go (by omega), sh_int]
        rfl
    obtain ⟨t, q2, ht⟩ := q2
    have hall := and_b q1 (b' := t && !(confB many o == false)) fun _ => and_b q2 fun _ => and_1 q3
    rw [hall]
    cases t with
    | false => rw [Bool.false_and, Bool.and_false]
    | true =>
      rw [ht rfl]
      show some (R.ok (D.bl (!eqD x cf && false)), g) = _
      rw [Bool.and_false]
  subst hσ
  have hcf8 : confB many cf = true := by rw [hcf]; exact conf_of hP.len hP.pos hP.lo (by have := hP.hi; omega)
  refine got_ifN (got_e fun g => ?_) ?_
  · have : ev (upto F 29) (.callk 23 [.var 3] [("value", .var 6)] [0, 1]) (st ns a (.imm p) (.imm (.lst odds)) d'' (.imm cf) f) g = some (.ok (.bl true), g) := by
      show (M.bind (M.pure [p, cf]) fun as => upto F 29 23 as) g = _
      rw [M.pure_bind, upto_lt (by decide)]
      exact (e23 P gcf).trans (by rw [hcf8])
    exact nis this
  -- pattern
  refine got_asg (P := fun d => ∃ l, d = .tup (l.map D.int) ∧ Pat many 4 l) (got_call (ds := [.scr ns, .obj 0, .int many, .int 4]) (fun g => by rw [hp]; rfl) (by rw [upto_lt (by decide)]; exact e18 hl h2 h5 (by omega) (by omega))) fun pt ⟨l', hpt, hP'⟩ => ?_
  refine ⟨st ns a (.imm p) (.imm (.lst odds)) d'' (.imm cf) (.imm pt), rfl, ?_⟩
  have gpt : gd 2 pt = true := by rw [hpt]; exact gd_ints
  have hpt4 : patB many pt = true := by rw [hpt]; exact pat_of hP'
  refine got_ifN (got_e fun g => ?_) ?_
  · have : ev (upto F 29) (.callk 25 [.var 3] [("value", .var 7)] [0, 1]) (st ns a (.imm p) (.imm (.lst odds)) d'' (.imm cf) (.imm pt)) g = some (.ok (.bl true), g) := by
      show (M.bind (M.pure [p, pt]) fun as => upto F 29 25 as) g = _
      rw [M.pure_bind, upto_lt (by decide)]
      exact (e25 P gpt).trans (by rw [hpt4])
    exact nis this
  refine got_ifN (got_e fun g => ?_) ?_
  · have hc : confB many pt = true := by rw [hpt]; exact conf_of hP'.len hP'.pos hP'.lo (by have := hP'.hi; omega)
    have : ev (upto F 29) (.callk 27 [.var 3] [("value", .tup [.var 7])] [0, 1]) (st ns a (.imm p) (.imm (.lst odds)) d'' (.imm cf) (.imm pt)) g = some (.ok (.bl true), g) := by
      show (M.bind (M.pure [p, .tup [pt]]) fun as => upto F 29 27 as) g = _
      rw [M.pure_bind, upto_lt (by decide)]
      refine (e27 (n := 3) P (gd_up (gds_of fun y hy => by simp at hy; subst hy; exact gpt))).trans ?_
      show some (R.ok (D.bl (decide (1 ≤ 6) && (([pt].all (confB many)) && [pt].all fun d => decide (sumD d = sumD pt)))), g) = _
      simp [hc]
    exact nis this
  refine got_cons (P := fun σ' => ∃ d, σ' = st ns a (.imm p) (.imm (.lst odds)) d (.imm cf) (.imm pt)) ?_ fun σ' ⟨d3, hσ⟩ => ?_
  · obtain ⟨r, hr0⟩ := hP'.hd
    have hlen := hP'.len
    have lr : (r.length : Int) = many - 1 := by rw [hr0] at hlen; simp at hlen; omega
    let odds2 : List D := [.non, .lst (l'.map D.int), .tup (r.map D.int), .tup (l'.map D.int ++ [.int 0]), .tup ([.int 0] ++ zs (many - 1) .non)]
    have hev : ∀ g, evi (upto F 29) (.e (.tup [.cst .non, .prim .list [.var 7], .slc (.var 7) (some (.cst (.int 1))) none, .op .add (.var 7) (.tup [.cst (.int 0)]), .op .add (.tup [.cst (.int 0)]) (.op .mul (.tup [.cst .non]) (.op .sub (.idx (.var 3) (.cst (.int 0))) (.cst (.int 1))))])) (st ns a (.imm p) (.imm (.lst odds)) d'' (.imm cf) (.imm pt)) g = some (.ok odds2, g) := fun g => by
      rw [evi, bind_ok (a := .tup odds2) (g1 := g)]
      · rfl
      · rw [ev, bind_ok (a := odds2) (g1 := g)]
        · rfl
        · refine evs_cons (g1 := g) rfl (evs_cons (g1 := g) (by rw [hpt]; rfl) (evs_cons (g1 := g) ?_ (evs_cons (g1 := g) ?_ (evs_one ?_))))
          · rw [hpt, hr0]
            show M.opt (some (D.tup (cutL ((0 :: r).map D.int) (some ((1 : Nat) : Int)) none))) g = _
            rw [cut_from]
            rfl
          · rw [hpt]
            exact op_b (x := .tup (l'.map D.int)) (y := .tup [.int 0]) rfl rfl (add_tup (by rw [List.length_map]; show _ + 1 ≤ _; omega))
          · refine op_b (x := .tup [.int 0]) (y := .tup (zs (many - 1) .non)) rfl (op_b (x := .tup [.non]) (y := .int (many - 1)) rfl ?_ (mul_tup (by omega) (by omega))) (add_tup (by rw [zs_len]; show 1 + _ ≤ _; omega))
            rw [hp]
            rfl
    refine got_for (items := odds2) (.of hev rfl) ?_
    refine (got_loop (fun _ σ' => ∃ d, σ' = st ns a (.imm p) (.imm (.lst odds)) d (.imm cf) (.imm pt)) odds2 0 _ ⟨d'', rfl⟩ fun i o σ' hi ⟨d4, hσ⟩ => ?_).imp fun fl ⟨σ', h1, h2⟩ => ⟨σ', h1, h2⟩
    subst hσ
    refine ⟨st ns a (.imm p) (.imm (.lst odds)) (.imm o) (.imm cf) (.imm pt), rfl, ?_⟩
    refine got_ifN (got_e fun g => ?_) (got_end.imp fun fl hfl => ⟨_, hfl, _, rfl⟩)
    have hm := List.mem_of_getElem? hi
    have fact : gd 2 o = true ∧ patB many o = false ∧ logB many o = false := by
      have hne : r ≠ [] := fun z => by rw [z] at lr; simp at lr; omega
      have nolog : ∀ (x : Int) (q : List D), logB many (.tup (.int x :: q)) = false := fun x q => by
        show (decide ((D.int x :: q).length ≤ 6) && (((D.int x :: q).all (confB many)) && _)) = false
        have : ((D.int x :: q).all (confB many)) = false := rfl
        rw [this, Bool.false_and, Bool.and_false]
      have cnt : ∀ q : List D, countsB many (.tup q) = false → patB many (.tup q) = false := fun q hq => by
        show (countsB many (.tup q) && _) = false
        rw [hq]
        rfl
      have len' : ∀ q : List D, (q.length : Int) ≠ many → countsB many (.tup q) = false := fun q hq => by
        show (decide ((q.length : Int) = many) && _) = false
        rw [decide_eq_false hq]
        rfl
      simp only [odds2, List.mem_cons, List.not_mem_nil, or_false] at hm
      rcases hm with rfl | rfl | rfl | rfl | rfl
      · exact ⟨by decide +kernel, rfl, rfl⟩
      · exact ⟨gd_upL gds_int, rfl, rfl⟩
      · refine ⟨gd_ints, cnt _ (len' _ (by rw [List.length_map]; omega)), ?_⟩
        cases r with
        | nil => exact absurd rfl hne
        | cons x r => exact nolog _ _
      · refine ⟨gd_up (gds_of fun y hy => ?_), cnt _ (len' _ (by rw [List.length_append, List.length_map]; simp; omega)), ?_⟩
        · rcases List.mem_append.mp hy with z | z
          · obtain ⟨w, _, rfl⟩ := List.mem_map.mp z
            exact gd_int
          · have : y = .int 0 := by simpa using z
            subst this
            exact gd_int
        · rw [hr0]
          exact nolog _ _
      · refine ⟨gd_up (gds_of fun y hy => ?_), cnt _ ?_, nolog _ _⟩
        · rcases List.mem_append.mp hy with z | z
          · have : y = .int 0 := by simpa using z
            subst this
            exact gd_int
          · rw [List.eq_of_mem_replicate z]
            unfold gd
            rfl
        · rcases five h2 h5 with e | e | e | e <;> (rw [e]; rfl)
    obtain ⟨f1, f2, f3⟩ := fact
    have q1 : ev (upto F 29) (.not (.call 2 [.call 25 [.var 3, .var 5], .cst (.bl false)])) (st ns a (.imm p) (.imm (.lst odds)) (.imm o) (.imm cf) (.imm pt)) g = some (.ok (.bl (!(patB many o == false))), g) := nis (cl25 (by decide) P rfl f1)
    have q2 : ev (upto F 29) (.not (.call 2 [.call 27 [.var 3, .var 5], .cst (.bl false)])) (st ns a (.imm p) (.imm (.lst odds)) (.imm o) (.imm cf) (.imm pt)) g = some (.ok (.bl (!(logB many o == false))), g) := nis (cl27 (by decide) P rfl f1)
    rw [f2] at q1
    rw [f3] at q2
    exact or_f q1 (or_1 q2)
  subst hσ
  refine got_ifN (got_e fun g => ?_) (got_end.imp fun fl hfl => ⟨_, _, _, _, _, _, hfl⟩)
  refine not_b (b := true) (ev_call (ds := [p, cf]) rfl ?_)
  rw [upto_lt (by decide), hcf]
  exact e28 P hP
theorem law_true : ∃ g', Φ 29 [.scr ns] [] = some (.ok (.bl true), g') := by
  have h1 : Got ns.length (exs (upto F 29) fuel [.forr (.n 2) (.rng [.cst (.int 3)]) b29L [], .ret (.call 8 [])] (st ns .un .un .un .un .un .un)) fun f => ∃ d, f = .ret d ∧ d = .bl true := by
    refine got_cons (P := fun σ' => ∃ a b c d e f, σ' = st ns a b c d e f) ?_ fun σ' ⟨a, b, c, d, e, f, hσ⟩ => ?_
    · refine got_for (items := rangeD 0 3) (.of (fun g => rfl) rfl) ?_
      refine (got_loop (fun _ σ' => ∃ a b c d e f, σ' = st ns a b c d e f) (rangeD 0 3) 0 _ ⟨_, _, _, _, _, _, rfl⟩ fun i x σ' hi ⟨a, b, c, d, e, f, hσ⟩ => ?_).imp fun fl ⟨σ', h1, h2⟩ => ⟨σ', h1, h2⟩
      subst hσ
      exact ⟨st ns (.imm x) b c d e f, rfl, (turn hl).imp fun fl ⟨a, b, c, d, e, f, h⟩ => ⟨_, h, a, b, c, d, e, f, rfl⟩⟩
    · subst hσ
      exact got_ret (got_e fun g => ev_call (ds := []) rfl (by rw [upto_lt (by decide)]; exact e8))
  obtain ⟨a, g', e1, ⟨d, rfl, rfl⟩, _⟩ := h1 [.town 0 []] ⟨0, [], rfl, by simp, by simp⟩
  refine ⟨g', ?_⟩
  refine body_ret (Φ := upto F 29) (fuel := fuel) (b := b29) (k := 7) (as := [.scr ns]) ?_
  show exs (upto F 29) fuel (.asg (.n 1) (.call 0 []) :: [.forr (.n 2) (.rng [.cst (.int 3)]) b29L [], .ret (.call 8 [])]) [.imm (.scr ns), .un, .un, .un, .un, .un, .un, .un] [] = _
  rw [exs_asg (d := .obj 0) (g1 := [.town 0 []]) (σ' := st ns .un .un .un .un .un .un) (by
    rw [ev, bind_ok (a := []) (g1 := []) rfl]
    rw [upto_lt (by decide)]
    rfl) rfl]
  exact e1
end
end K01
namespace K01
open PySem PySem.Spec PyProof.Rows L2
def dd (n : Str) (i : Nat) : He.DefD := ⟨(n, none), n, n, defArgs (top i), defBody (top i), defScope (top i), [], []⟩
def fn_0 : List He.DefD := [dd "_law_begun" 26, dd "_law_draw" 25, dd "_law_is" 24, dd "is_between" 6, dd "are_between" 7, dd "is_ascending" 8, dd "is_rule" 9, dd "is_protocol" 10, dd "_law_bounds" 31, dd "_law_rule" 27, dd "_law_protocol" 28, dd "_law_spoilt" 30, dd "_law_pattern" 29, dd "check_protocol" 11, dd "is_count" 13, dd "are_counts" 12, dd "is_configuration_of" 14, dd "is_configuration" 15, dd "is_pattern_of" 20, dd "is_pattern" 22]
def fn_1 : List He.DefD := [dd "is_log_of" 17, dd "is_log" 18, dd "_law_counts" 32, dd "law" 33]
def fn : List He.DefD := fn_0 ++ fn_1
def fa_0 : List He.Fa := [.free "all", .free "bool", .free "enumerate", .free "int", .free "isinstance", .free "len", .free "list", .free "range", .free "sum", .free "tuple", .free "zip", .int "CACHES" 8, .int "RULES" 8, .glo "_law_begun", .glo "_law_draw", .glo "_law_is", .glo "is_between", .glo "are_between", .glo "is_ascending", .glo "is_rule"]
def fa_1 : List He.Fa := [.glo "is_protocol", .glo "_law_bounds", .glo "_law_rule", .glo "_law_protocol", .glo "_law_spoilt", .glo "_law_pattern", .glo "check_protocol", .glo "is_count", .glo "are_counts", .glo "is_configuration_of", .glo "is_configuration", .glo "is_pattern_of", .glo "is_pattern", .glo "is_log_of", .glo "is_log", .glo "_law_counts", .glo "law", .glo "InvalidProtocol", .exc "InvalidProtocol"]
def fa : List He.Fa := fa_0 ++ fa_1
def nms_0 : List Str := ["__name__", "CacheError", "InvalidProtocol", "RULES", "CACHES", "is_between", "are_between", "is_ascending", "is_rule", "is_protocol", "check_protocol", "are_counts", "is_count", "is_configuration_of", "is_configuration", "is_log_of", "is_log", "is_pattern_of", "is_pattern", "_law_is"]
def nms_1 : List Str := ["_law_draw", "_law_begun", "_law_rule", "_law_protocol", "_law_pattern", "_law_spoilt", "_law_bounds", "_law_counts"]
def nms : List Str := nms_0 ++ nms_1
end K01
namespace K01
open PySem PySem.Spec L2 MC
theorem kwm {n m : Nat} {ks : List Str} {perm : List Nat} (z : T.kw.contains (n, m, ks, perm) = true) : (n, m, ks, perm) ∈ T.kw := by simpa using z
section
variable {P : Program} {w : World} {K : PySem.W.Frag} {h : Heap} {mg : Str → Option Value} {base : Heap}
abbrev Cc (K : PySem.W.Frag) : Cn := ⟨K, fun _ => ""⟩
theorem bl_ok (X : K.In h) (G : h.Ns mainGlobals mg) (c : He.SaysD fa fn K) : ∀ x, T.bl.contains x = true → mg x = none := by
  intro x hx
  have hx : x ∈ T.bl := by simpa using hx
  simp only [T, List.mem_cons, List.not_mem_nil, or_false] at hx
  rcases hx with rfl | rfl | rfl | rfl | rfl | rfl | rfl | rfl | rfl | rfl | rfl
  · exact He.free_ok X G (c.fact 0 (f := .free "all") rfl)
  · exact He.free_ok X G (c.fact 1 (f := .free "bool") rfl)
  · exact He.free_ok X G (c.fact 2 (f := .free "enumerate") rfl)
  · exact He.free_ok X G (c.fact 3 (f := .free "int") rfl)
  · exact He.free_ok X G (c.fact 4 (f := .free "isinstance") rfl)
  · exact He.free_ok X G (c.fact 5 (f := .free "len") rfl)
  · exact He.free_ok X G (c.fact 6 (f := .free "list") rfl)
  · exact He.free_ok X G (c.fact 7 (f := .free "range") rfl)
  · exact He.free_ok X G (c.fact 8 (f := .free "sum") rfl)
  · exact He.free_ok X G (c.fact 9 (f := .free "tuple") rfl)
  · exact He.free_ok X G (c.fact 10 (f := .free "zip") rfl)
theorem cn_ok (X : K.In h) (G : h.Ns mainGlobals mg) (c : He.SaysD fa fn K) : ∀ x i, T.cn.contains (x, i) = true → ∃ u, mg x = some u ∧ RelV (.int i) u := by
  intro x i hx
  have hx : (x, i) ∈ T.cn := by simpa using hx
  simp only [T, List.mem_cons, List.not_mem_nil, or_false, Prod.mk.injEq] at hx
  rcases hx with ⟨rfl, rfl⟩ | ⟨rfl, rfl⟩
  · obtain ⟨t, e⟩ := He.int_ok X G (c.fact 11 (f := .int "CACHES" 8) rfl)
    exact ⟨_, e, ⟨t, rfl⟩⟩
  · obtain ⟨t, e⟩ := He.int_ok X G (c.fact 12 (f := .int "RULES" 8) rfl)
    exact ⟨_, e, ⟨t, rfl⟩⟩
theorem ex_ok (X : K.In h) (G : h.Ns mainGlobals mg) (c : He.SaysD fa fn K) : ∀ x, T.ex.contains x = true → ExcOk K mg x := by
  intro x hx
  have hx : x ∈ T.ex := by simpa using hx
  simp only [T, List.mem_cons, List.not_mem_nil, or_false] at hx
  rcases hx with rfl
  · obtain ⟨e1, e2, e3, e4⟩ := He.exc_ok (c.fact 38 (f := .exc "InvalidProtocol") rfl)
    exact ⟨_, _, _, _, PySem.F.excBase_ValueError, e1, He.glo_ok X G (c.fact 37 (f := .glo "InvalidProtocol") rfl), e2, e3, e4⟩
theorem m0 (X : K.In h) (G : h.Ns mainGlobals mg) (c : He.SaysD fa fn K) : Mdl T (Cc K) P w mg base Φ 0 := ⟨bl_ok X G c, cn_ok X G c, fun f hf => absurd hf (Nat.not_lt_zero _), ex_ok X G c⟩
theorem m1 (X : K.In h) (G : h.Ns mainGlobals mg) (c : He.SaysD fa fn K) : Mdl T (Cc K) P w mg base Φ 1 := by
  obtain ⟨fd, Fd⟩ := c.def_ 0 (d := dd "_law_begun" 26) rfl
  have hm : mg "_law_begun" = some (.ref (He.ga K "_law_begun")) := He.glo_ok X G (c.fact 13 (f := .glo "_law_begun") rfl)
  exact step_own (ps := []) (N := []) (k := 0) (mB := fun σ => M.bind (begunF []) fun d => M.pure (.ret d)) (m0 X G c) rfl Fd hm (fun _ _ _ _ _ _ us hl => match us, hl with | [], _ => rfl) (fun m ks perm z => by have z := kwm z; simp [T] at z) (by decide +kernel) rfl rfl (fun X W H0 ρ0 Gd => liftSs_eq (sS_cons (sS_ret sE_begun) sS_nil) fun σ => rfl) (fun as _ => rfl)
theorem m2 (X : K.In h) (G : h.Ns mainGlobals mg) (c : He.SaysD fa fn K) : Mdl T (Cc K) P w mg base Φ 2 := by
  obtain ⟨fd, Fd⟩ := c.def_ 1 (d := dd "_law_draw" 25) rfl
  have hm : mg "_law_draw" = some (.ref (He.ga K "_law_draw")) := He.glo_ok X G (c.fact 14 (f := .glo "_law_draw") rfl)
  exact step_own (ps := ["script", "town", "many"]) (N := drawN) (k := 3) (mB := drawB) (m1 X G c) rfl Fd hm (fun _ _ _ _ _ _ us hl => match us, hl with | [_, _, _], _ => rfl) (fun m ks perm z => by have z := kwm z; simp [T] at z) (by decide +kernel) rfl rfl (fun X W H0 ρ0 Gd => draw_run Gd rfl (by decide +kernel) (by decide +kernel) (by decide +kernel) (by decide +kernel) (by decide +kernel) (by decide +kernel) (by decide +kernel) (by decide +kernel) (by decide +kernel)) (fun as _ => rfl)
theorem m3 (X : K.In h) (G : h.Ns mainGlobals mg) (c : He.SaysD fa fn K) : Mdl T (Cc K) P w mg base Φ 3 := by
  obtain ⟨fd, Fd⟩ := c.def_ 2 (d := dd "_law_is" 24) rfl
  have hm : mg "_law_is" = some (.ref (He.ga K "_law_is")) := He.glo_ok X G (c.fact 15 (f := .glo "_law_is") rfl)
  exact step_def (ps := ["result", "expected"]) (N := N2) (k := 0) (fuel := fuel) (b := b2) (m2 X G c) rfl Fd hm (fun _ _ _ _ _ _ us hl => match us, hl with | [_, _], _ => rfl) (fun m ks perm z => by have z := kwm z; simp [T] at z) (by decide +kernel) rfl rfl c2 rfl
theorem m4 (X : K.In h) (G : h.Ns mainGlobals mg) (c : He.SaysD fa fn K) : Mdl T (Cc K) P w mg base Φ 4 := by
  obtain ⟨fd, Fd⟩ := c.def_ 3 (d := dd "is_between" 6) rfl
  have hm : mg "is_between" = some (.ref (He.ga K "is_between")) := He.glo_ok X G (c.fact 16 (f := .glo "is_between") rfl)
  exact step_def (ps := ["value", "low", "high"]) (N := N3) (k := 0) (fuel := fuel) (b := b3) (m3 X G c) rfl Fd hm (fun _ _ _ _ _ _ us hl => match us, hl with | [_, _, _], _ => rfl) (fun m ks perm z => by have z := kwm z; simp [T] at z) (by decide +kernel) rfl rfl c3 rfl
theorem m5 (X : K.In h) (G : h.Ns mainGlobals mg) (c : He.SaysD fa fn K) : Mdl T (Cc K) P w mg base Φ 5 := by
  obtain ⟨fd, Fd⟩ := c.def_ 4 (d := dd "are_between" 7) rfl
  have hm : mg "are_between" = some (.ref (He.ga K "are_between")) := He.glo_ok X G (c.fact 17 (f := .glo "are_between") rfl)
  exact step_def (ps := ["values", "low", "high"]) (N := N4) (k := 1) (fuel := fuel) (b := b4) (m4 X G c) rfl Fd hm (fun _ _ _ _ _ _ us hl => match us, hl with | [_, _, _], _ => rfl) (fun m ks perm z => by have z := kwm z; simp [T] at z) (by decide +kernel) rfl rfl c4 rfl
theorem m6 (X : K.In h) (G : h.Ns mainGlobals mg) (c : He.SaysD fa fn K) : Mdl T (Cc K) P w mg base Φ 6 := by
  obtain ⟨fd, Fd⟩ := c.def_ 5 (d := dd "is_ascending" 8) rfl
  have hm : mg "is_ascending" = some (.ref (He.ga K "is_ascending")) := He.glo_ok X G (c.fact 18 (f := .glo "is_ascending") rfl)
  exact step_def (ps := ["values"]) (N := N5) (k := 2) (fuel := fuel) (b := b5) (m5 X G c) rfl Fd hm (fun _ _ _ _ _ _ us hl => match us, hl with | [_], _ => rfl) (fun m ks perm z => by have z := kwm z; simp [T] at z) (by decide +kernel) rfl rfl c5 rfl
theorem m7 (X : K.In h) (G : h.Ns mainGlobals mg) (c : He.SaysD fa fn K) : Mdl T (Cc K) P w mg base Φ 7 := by
  obtain ⟨fd, Fd⟩ := c.def_ 6 (d := dd "is_rule" 9) rfl
  have hm : mg "is_rule" = some (.ref (He.ga K "is_rule")) := He.glo_ok X G (c.fact 19 (f := .glo "is_rule") rfl)
  exact step_def (ps := ["many", "value"]) (N := N6) (k := 5) (fuel := fuel) (b := b6) (m6 X G c) rfl Fd hm (fun _ _ _ _ _ _ us hl => match us, hl with | [_, _], _ => rfl) (fun m ks perm z => by have z := kwm z; simp [T] at z) (by decide +kernel) rfl rfl c6 rfl
theorem m8 (X : K.In h) (G : h.Ns mainGlobals mg) (c : He.SaysD fa fn K) : Mdl T (Cc K) P w mg base Φ 8 := by
  obtain ⟨fd, Fd⟩ := c.def_ 7 (d := dd "is_protocol" 10) rfl
  have hm : mg "is_protocol" = some (.ref (He.ga K "is_protocol")) := He.glo_ok X G (c.fact 20 (f := .glo "is_protocol") rfl)
  exact step_def (ps := ["value"]) (N := N7) (k := 3) (fuel := fuel) (b := b7) (m7 X G c) rfl Fd hm (fun _ _ _ _ _ _ us hl => match us, hl with | [_], _ => rfl) (fun m ks perm z => by
    have z := kwm z
    simp [T] at z
    obtain ⟨rfl, rfl, rfl⟩ := z
    exact fun _ _ _ _ _ _ us ws h1 h2 => match us, ws, h1, h2 with | [], [_], _, _ => rfl) (by decide +kernel) rfl rfl c7 rfl
theorem m9 (X : K.In h) (G : h.Ns mainGlobals mg) (c : He.SaysD fa fn K) : Mdl T (Cc K) P w mg base Φ 9 := by
  obtain ⟨fd, Fd⟩ := c.def_ 8 (d := dd "_law_bounds" 31) rfl
  have hm : mg "_law_bounds" = some (.ref (He.ga K "_law_bounds")) := He.glo_ok X G (c.fact 21 (f := .glo "_law_bounds") rfl)
  exact step_def (ps := []) (N := N8) (k := 4) (fuel := fuel) (b := b8) (m8 X G c) rfl Fd hm (fun _ _ _ _ _ _ us hl => match us, hl with | [], _ => rfl) (fun m ks perm z => by have z := kwm z; simp [T] at z) (by decide +kernel) rfl rfl c8 rfl
theorem m10 (X : K.In h) (G : h.Ns mainGlobals mg) (c : He.SaysD fa fn K) : Mdl T (Cc K) P w mg base Φ 10 := by
  obtain ⟨fd, Fd⟩ := c.def_ 9 (d := dd "_law_rule" 27) rfl
  have hm : mg "_law_rule" = some (.ref (He.ga K "_law_rule")) := He.glo_ok X G (c.fact 22 (f := .glo "_law_rule") rfl)
  exact step_def (ps := ["script", "town", "many"]) (N := N9) (k := 6) (fuel := fuel) (b := b9) (m9 X G c) rfl Fd hm (fun _ _ _ _ _ _ us hl => match us, hl with | [_, _, _], _ => rfl) (fun m ks perm z => by have z := kwm z; simp [T] at z) (by decide +kernel) rfl rfl c9 rfl
theorem m11 (X : K.In h) (G : h.Ns mainGlobals mg) (c : He.SaysD fa fn K) : Mdl T (Cc K) P w mg base Φ 11 := by
  obtain ⟨fd, Fd⟩ := c.def_ 10 (d := dd "_law_protocol" 28) rfl
  have hm : mg "_law_protocol" = some (.ref (He.ga K "_law_protocol")) := He.glo_ok X G (c.fact 23 (f := .glo "_law_protocol") rfl)
  exact step_def (ps := ["script", "town", "states", "rules"]) (N := N10) (k := 2) (fuel := fuel) (b := b10) (m10 X G c) rfl Fd hm (fun _ _ _ _ _ _ us hl => match us, hl with | [_, _, _, _], _ => rfl) (fun m ks perm z => by have z := kwm z; simp [T] at z) (by decide +kernel) rfl rfl c10 rfl
theorem m12 (X : K.In h) (G : h.Ns mainGlobals mg) (c : He.SaysD fa fn K) : Mdl T (Cc K) P w mg base Φ 12 := by
  obtain ⟨fd, Fd⟩ := c.def_ 11 (d := dd "_law_spoilt" 30) rfl
  have hm : mg "_law_spoilt" = some (.ref (He.ga K "_law_spoilt")) := He.glo_ok X G (c.fact 24 (f := .glo "_law_spoilt") rfl)
  exact step_bot (ps := ["value_here"]) (m11 X G c) rfl Fd hm (fun _ _ _ _ _ _ us hl => match us, hl with | [_], _ => rfl) (fun m ks perm z => by have z := kwm z; simp [T] at z) rfl rfl
theorem m13 (X : K.In h) (G : h.Ns mainGlobals mg) (c : He.SaysD fa fn K) : Mdl T (Cc K) P w mg base Φ 13 := by
  obtain ⟨fd, Fd⟩ := c.def_ 11 (d := dd "_law_spoilt" 30) rfl
  have hm : mg "_law_spoilt" = some (.ref (He.ga K "_law_spoilt")) := He.glo_ok X G (c.fact 24 (f := .glo "_law_spoilt") rfl)
  exact step_def (ps := ["value_here"]) (N := N12) (k := 4) (fuel := fuel) (b := b12) (m12 X G c) rfl Fd hm (fun _ _ _ _ _ _ us hl => match us, hl with | [_], _ => rfl) (fun m ks perm z => by have z := kwm z; simp [T] at z) (by decide +kernel) rfl rfl c12 rfl
theorem m14 (X : K.In h) (G : h.Ns mainGlobals mg) (c : He.SaysD fa fn K) : Mdl T (Cc K) P w mg base Φ 14 := by
  obtain ⟨fd, Fd⟩ := c.def_ 11 (d := dd "_law_spoilt" 30) rfl
  have hm : mg "_law_spoilt" = some (.ref (He.ga K "_law_spoilt")) := He.glo_ok X G (c.fact 24 (f := .glo "_law_spoilt") rfl)
  exact step_def (ps := ["value_here"]) (N := N13) (k := 4) (fuel := fuel) (b := b13) (m13 X G c) rfl Fd hm (fun _ _ _ _ _ _ us hl => match us, hl with | [_], _ => rfl) (fun m ks perm z => by have z := kwm z; simp [T] at z) (by decide +kernel) rfl rfl c13 rfl
theorem m15 (X : K.In h) (G : h.Ns mainGlobals mg) (c : He.SaysD fa fn K) : Mdl T (Cc K) P w mg base Φ 15 := by
  obtain ⟨fd, Fd⟩ := c.def_ 11 (d := dd "_law_spoilt" 30) rfl
  have hm : mg "_law_spoilt" = some (.ref (He.ga K "_law_spoilt")) := He.glo_ok X G (c.fact 24 (f := .glo "_law_spoilt") rfl)
  exact step_def (ps := ["value_here"]) (N := N14) (k := 4) (fuel := fuel) (b := b14) (m14 X G c) rfl Fd hm (fun _ _ _ _ _ _ us hl => match us, hl with | [_], _ => rfl) (fun m ks perm z => by have z := kwm z; simp [T] at z) (by decide +kernel) rfl rfl c14 rfl
theorem m16 (X : K.In h) (G : h.Ns mainGlobals mg) (c : He.SaysD fa fn K) : Mdl T (Cc K) P w mg base Φ 16 := by
  obtain ⟨fd, Fd⟩ := c.def_ 11 (d := dd "_law_spoilt" 30) rfl
  have hm : mg "_law_spoilt" = some (.ref (He.ga K "_law_spoilt")) := He.glo_ok X G (c.fact 24 (f := .glo "_law_spoilt") rfl)
  exact step_def (ps := ["value_here"]) (N := N15) (k := 4) (fuel := fuel) (b := b15) (m15 X G c) rfl Fd hm (fun _ _ _ _ _ _ us hl => match us, hl with | [_], _ => rfl) (fun m ks perm z => by have z := kwm z; simp [T] at z) (by decide +kernel) rfl rfl c15 rfl
theorem m17 (X : K.In h) (G : h.Ns mainGlobals mg) (c : He.SaysD fa fn K) : Mdl T (Cc K) P w mg base Φ 17 := by
  obtain ⟨fd, Fd⟩ := c.def_ 11 (d := dd "_law_spoilt" 30) rfl
  have hm : mg "_law_spoilt" = some (.ref (He.ga K "_law_spoilt")) := He.glo_ok X G (c.fact 24 (f := .glo "_law_spoilt") rfl)
  exact step_def (ps := ["value_here"]) (N := N16) (k := 4) (fuel := fuel) (b := b16) (m16 X G c) rfl Fd hm (fun _ _ _ _ _ _ us hl => match us, hl with | [_], _ => rfl) (fun m ks perm z => by have z := kwm z; simp [T] at z) (by decide +kernel) rfl rfl c16 rfl
theorem m18 (X : K.In h) (G : h.Ns mainGlobals mg) (c : He.SaysD fa fn K) : Mdl T (Cc K) P w mg base Φ 18 := by
  obtain ⟨fd, Fd⟩ := c.def_ 11 (d := dd "_law_spoilt" 30) rfl
  have hm : mg "_law_spoilt" = some (.ref (He.ga K "_law_spoilt")) := He.glo_ok X G (c.fact 24 (f := .glo "_law_spoilt") rfl)
  exact step_def (ps := ["value_here"]) (N := N17) (k := 4) (fuel := fuel) (b := b17) (m17 X G c) rfl Fd hm (fun _ _ _ _ _ _ us hl => match us, hl with | [_], _ => rfl) (fun m ks perm z => by have z := kwm z; simp [T] at z) (by decide +kernel) rfl rfl c17 rfl
theorem m19 (X : K.In h) (G : h.Ns mainGlobals mg) (c : He.SaysD fa fn K) : Mdl T (Cc K) P w mg base Φ 19 := by
  obtain ⟨fd, Fd⟩ := c.def_ 12 (d := dd "_law_pattern" 29) rfl
  have hm : mg "_law_pattern" = some (.ref (He.ga K "_law_pattern")) := He.glo_ok X G (c.fact 25 (f := .glo "_law_pattern") rfl)
  exact step_def (ps := ["script", "town", "many", "most"]) (N := N18) (k := 2) (fuel := fuel) (b := b18) (m18 X G c) rfl Fd hm (fun _ _ _ _ _ _ us hl => match us, hl with | [_, _, _, _], _ => rfl) (fun m ks perm z => by have z := kwm z; simp [T] at z) (by decide +kernel) rfl rfl c18 rfl
theorem m20 (X : K.In h) (G : h.Ns mainGlobals mg) (c : He.SaysD fa fn K) : Mdl T (Cc K) P w mg base Φ 20 := by
  obtain ⟨fd, Fd⟩ := c.def_ 13 (d := dd "check_protocol" 11) rfl
  have hm : mg "check_protocol" = some (.ref (He.ga K "check_protocol")) := He.glo_ok X G (c.fact 26 (f := .glo "check_protocol") rfl)
  exact step_def (ps := ["protocol"]) (N := N19) (k := 0) (fuel := fuel) (b := b19) (m19 X G c) rfl Fd hm (fun _ _ _ _ _ _ us hl => match us, hl with | [_], _ => rfl) (fun m ks perm z => by have z := kwm z; simp [T] at z) (by decide +kernel) rfl rfl c19 rfl
theorem m21 (X : K.In h) (G : h.Ns mainGlobals mg) (c : He.SaysD fa fn K) : Mdl T (Cc K) P w mg base Φ 21 := by
  obtain ⟨fd, Fd⟩ := c.def_ 14 (d := dd "is_count" 13) rfl
  have hm : mg "is_count" = some (.ref (He.ga K "is_count")) := He.glo_ok X G (c.fact 27 (f := .glo "is_count") rfl)
  exact step_def (ps := ["value"]) (N := N20) (k := 0) (fuel := fuel) (b := b20) (m20 X G c) rfl Fd hm (fun _ _ _ _ _ _ us hl => match us, hl with | [_], _ => rfl) (fun m ks perm z => by have z := kwm z; simp [T] at z) (by decide +kernel) rfl rfl c20 rfl
theorem m22 (X : K.In h) (G : h.Ns mainGlobals mg) (c : He.SaysD fa fn K) : Mdl T (Cc K) P w mg base Φ 22 := by
  obtain ⟨fd, Fd⟩ := c.def_ 15 (d := dd "are_counts" 12) rfl
  have hm : mg "are_counts" = some (.ref (He.ga K "are_counts")) := He.glo_ok X G (c.fact 28 (f := .glo "are_counts") rfl)
  exact step_def (ps := ["protocol", "value"]) (N := N21) (k := 1) (fuel := fuel) (b := b21) (m21 X G c) rfl Fd hm (fun _ _ _ _ _ _ us hl => match us, hl with | [_, _], _ => rfl) (fun m ks perm z => by have z := kwm z; simp [T] at z) (by decide +kernel) rfl rfl c21 rfl
theorem m23 (X : K.In h) (G : h.Ns mainGlobals mg) (c : He.SaysD fa fn K) : Mdl T (Cc K) P w mg base Φ 23 := by
  obtain ⟨fd, Fd⟩ := c.def_ 16 (d := dd "is_configuration_of" 14) rfl
  have hm : mg "is_configuration_of" = some (.ref (He.ga K "is_configuration_of")) := He.glo_ok X G (c.fact 29 (f := .glo "is_configuration_of") rfl)
  exact step_def (ps := ["protocol", "value"]) (N := N22) (k := 0) (fuel := fuel) (b := b22) (m22 X G c) rfl Fd hm (fun _ _ _ _ _ _ us hl => match us, hl with | [_, _], _ => rfl) (fun m ks perm z => by have z := kwm z; simp [T] at z) (by decide +kernel) rfl rfl c22 rfl
theorem m24 (X : K.In h) (G : h.Ns mainGlobals mg) (c : He.SaysD fa fn K) : Mdl T (Cc K) P w mg base Φ 24 := by
  obtain ⟨fd, Fd⟩ := c.def_ 17 (d := dd "is_configuration" 15) rfl
  have hm : mg "is_configuration" = some (.ref (He.ga K "is_configuration")) := He.glo_ok X G (c.fact 30 (f := .glo "is_configuration") rfl)
  exact step_def (ps := ["protocol", "value"]) (N := N23) (k := 0) (fuel := fuel) (b := b23) (m23 X G c) rfl Fd hm (fun _ _ _ _ _ _ us hl => match us, hl with | [_, _], _ => rfl) (fun m ks perm z => by
    have z := kwm z
    simp [T] at z
    obtain ⟨rfl, rfl, rfl⟩ := z
    exact fun _ _ _ _ _ _ us ws h1 h2 => match us, ws, h1, h2 with | [_], [_], _, _ => rfl) (by decide +kernel) rfl rfl c23 rfl
theorem m25 (X : K.In h) (G : h.Ns mainGlobals mg) (c : He.SaysD fa fn K) : Mdl T (Cc K) P w mg base Φ 25 := by
  obtain ⟨fd, Fd⟩ := c.def_ 18 (d := dd "is_pattern_of" 20) rfl
  have hm : mg "is_pattern_of" = some (.ref (He.ga K "is_pattern_of")) := He.glo_ok X G (c.fact 31 (f := .glo "is_pattern_of") rfl)
  exact step_def (ps := ["protocol", "value"]) (N := N24) (k := 0) (fuel := fuel) (b := b24) (m24 X G c) rfl Fd hm (fun _ _ _ _ _ _ us hl => match us, hl with | [_, _], _ => rfl) (fun m ks perm z => by have z := kwm z; simp [T] at z) (by decide +kernel) rfl rfl c24 rfl
theorem m26 (X : K.In h) (G : h.Ns mainGlobals mg) (c : He.SaysD fa fn K) : Mdl T (Cc K) P w mg base Φ 26 := by
  obtain ⟨fd, Fd⟩ := c.def_ 19 (d := dd "is_pattern" 22) rfl
  have hm : mg "is_pattern" = some (.ref (He.ga K "is_pattern")) := He.glo_ok X G (c.fact 32 (f := .glo "is_pattern") rfl)
  exact step_def (ps := ["protocol", "value"]) (N := N25) (k := 0) (fuel := fuel) (b := b25) (m25 X G c) rfl Fd hm (fun _ _ _ _ _ _ us hl => match us, hl with | [_, _], _ => rfl) (fun m ks perm z => by
    have z := kwm z
    simp [T] at z
    obtain ⟨rfl, rfl, rfl⟩ := z
    exact fun _ _ _ _ _ _ us ws h1 h2 => match us, ws, h1, h2 with | [_], [_], _, _ => rfl) (by decide +kernel) rfl rfl c25 rfl
theorem m27 (X : K.In h) (G : h.Ns mainGlobals mg) (c : He.SaysD fa fn K) : Mdl T (Cc K) P w mg base Φ 27 := by
  obtain ⟨fd, Fd⟩ := c.def_ 20 (d := dd "is_log_of" 17) rfl
  have hm : mg "is_log_of" = some (.ref (He.ga K "is_log_of")) := He.glo_ok X G (c.fact 33 (f := .glo "is_log_of") rfl)
  exact step_def (ps := ["protocol", "value"]) (N := N26) (k := 1) (fuel := fuel) (b := b26) (m26 X G c) rfl Fd hm (fun _ _ _ _ _ _ us hl => match us, hl with | [_, _], _ => rfl) (fun m ks perm z => by have z := kwm z; simp [T] at z) (by decide +kernel) rfl rfl c26 rfl
theorem m28 (X : K.In h) (G : h.Ns mainGlobals mg) (c : He.SaysD fa fn K) : Mdl T (Cc K) P w mg base Φ 28 := by
  obtain ⟨fd, Fd⟩ := c.def_ 21 (d := dd "is_log" 18) rfl
  have hm : mg "is_log" = some (.ref (He.ga K "is_log")) := He.glo_ok X G (c.fact 34 (f := .glo "is_log") rfl)
  exact step_def (ps := ["protocol", "value"]) (N := N27) (k := 0) (fuel := fuel) (b := b27) (m27 X G c) rfl Fd hm (fun _ _ _ _ _ _ us hl => match us, hl with | [_, _], _ => rfl) (fun m ks perm z => by
    have z := kwm z
    simp [T] at z
    obtain ⟨rfl, rfl, rfl⟩ := z
    exact fun _ _ _ _ _ _ us ws h1 h2 => match us, ws, h1, h2 with | [_], [_], _, _ => rfl) (by decide +kernel) rfl rfl c27 rfl
theorem m29 (X : K.In h) (G : h.Ns mainGlobals mg) (c : He.SaysD fa fn K) : Mdl T (Cc K) P w mg base Φ 29 := by
  obtain ⟨fd, Fd⟩ := c.def_ 22 (d := dd "_law_counts" 32) rfl
  have hm : mg "_law_counts" = some (.ref (He.ga K "_law_counts")) := He.glo_ok X G (c.fact 35 (f := .glo "_law_counts") rfl)
  exact step_def (ps := ["protocol", "configuration"]) (N := N28) (k := 4) (fuel := fuel) (b := b28) (m28 X G c) rfl Fd hm (fun _ _ _ _ _ _ us hl => match us, hl with | [_, _], _ => rfl) (fun m ks perm z => by have z := kwm z; simp [T] at z) (by decide +kernel) rfl rfl c28 rfl
theorem m30 (X : K.In h) (G : h.Ns mainGlobals mg) (c : He.SaysD fa fn K) : Mdl T (Cc K) P w mg base Φ 30 := by
  obtain ⟨fd, Fd⟩ := c.def_ 23 (d := dd "law" 33) rfl
  have hm : mg "law" = some (.ref (He.ga K "law")) := He.glo_ok X G (c.fact 36 (f := .glo "law") rfl)
  exact step_def (ps := ["script"]) (N := N29) (k := 7) (fuel := fuel) (b := b29) (m29 X G c) rfl Fd hm (fun _ _ _ _ _ _ us hl => match us, hl with | [_], _ => rfl) (fun m ks perm z => by have z := kwm z; simp [T] at z) (by decide +kernel) rfl rfl c29 rfl
end
end K01
namespace K01
open PySem PySem.Spec PyProof.Rows L2
abbrev R : PySem.W.OpenRow := PySem.W.OpenLaw.row PySem.Challenge.rw_manycaches_k01_not_protocols
abbrev hk : PySem.W.Hook := He.hookD 5 fa fn
def ob (s : PySem.W.SharedT) : He.AlD := He.obsDG 5 fa fn (HandSHeadRun.getT s)
theorem ob_eq (s : PySem.W.SharedT) : ob s = hk.obs s.abs := He.obsDG_eq (HandSHeadRun.getT_eq s)
theorem run (w : World) : HandSHeadRun.RunEq R (PySem.W.view R.prog [33]) hk ob 6000 nms w := by
  intro os
  kernel_rfl
end K01
namespace K01
open PySem PySem.Spec PyProof.Rows L2 MC
theorem facts {P : Program} {w : World} {K : PySem.W.Frag} {h : Heap} {mg : Str → Option Value} {f : Addr} (X : K.In h) (G : h.Ns mainGlobals mg) (hfa : mg ("law" : Str) = some (.ref f)) (c : He.SaysD fa fn K) :
    ∃ fd : FuncData, (∀ (s : Shared) (v : Value), BindsTo s fd ⟨[v], []⟩ [("script", v)]) ∧ ∀ base : Heap, K.In base → base.Ns mainGlobals mg → FnOk P w K mg base (L2.CX P w) 30 f fd ["script"] (spM (Cc K) 1 (Φ 29)) := by
  obtain ⟨fd, Fd⟩ := c.def_ 23 (d := dd "law" 33) rfl
  have hm : mg "law" = some (.ref (He.ga K "law")) := He.glo_ok X G (c.fact 36 (f := .glo "law") rfl)
  have e := hfa.symm.trans hm
  cases e
  have b : ∀ (s : Shared) (v : Value), BindsTo s fd ⟨[v], []⟩ [("script", v)] := by
    obtain ⟨oc, od, dV, kV, doc, pm, an, cdv, ct, osl, rfl, lk, hcd, hD, hK⟩ := Fd.ex
    rcases hD with ⟨_, rfl⟩ | ⟨z, _⟩
    · exact fun s v => .of_eq rfl
    · exact absurd rfl z
  refine ⟨fd, b, fun base _ _ => ?_⟩
  exact def_okB (ps := ["script"]) (k := 7) (m29 X G c).upto Fd (scope_by (N := N29) (by decide +kernel)) rfl (fun X W H0 ρ0 Gd => sndSs (fuel := fuel) b29 _ Gd c29) fun as _ => rfl
end K01
open PySem PySem.W PySem.Calls PyProof.Rows
theorem PySem.Challenge.cw_manycaches_k01_not_protocols_holds : PySem.Challenge.rw_manycaches_k01_not_protocols.Holds := by
  w_on; o_law
  refine HandSHeadRun.head_any (r := OpenLaw.row PySem.Challenge.rw_manycaches_k01_not_protocols) (q := view (OpenLaw.row PySem.Challenge.rw_manycaches_k01_not_protocols).prog [33]) (H := K01.hk) (ob := K01.ob) (M := 6000) (loose := K01.nms) (d := HandSHeadRun.topDef (OpenLaw.row PySem.Challenge.rw_manycaches_k01_not_protocols).prog 33) (kwd := []) K01.ob_eq
    (by kernel_rfl) (fun s => by kernel_rfl) K01.run (by kernel_rfl) (by kernel_rfl) (by kernel_rfl) (by rfl) (by first | assumption | decide +kernel) (by decide +kernel) ⟨rfl, rfl, rfl, rfl, rfl, by decide +kernel⟩ ?hw ?hc
  case hw => w_witness2
  case hc =>
    refine L2.walk_ofE (l := PySem.Challenge.rw_manycaches_k01_not_protocols) (n := 63) (k := 30) (x := "script") (CX := fun a b c d e f => ∃ w, L2.CX (PySem.Challenge.rw_manycaches_k01_not_protocols).prog w a b c d e f) rfl (by decide) (by kernel_rfl) ⟨rfl, by decide, by decide⟩ ?F (fun _ _ _ _ z => by obtain ⟨w, z⟩ := z; obtain ⟨_, _, _, _, _, _, _, _, _, _, _, _, z⟩ := z; exact z)
    intro w mg fa h Y G hmg0
    obtain ⟨K, KX, c⟩ := Y
    have hmg : mg ("law" : PySem.Str) = some (.ref fa) := by
      have e : (HandSHeadRun.topDef (OpenLaw.row PySem.Challenge.rw_manycaches_k01_not_protocols).prog 33).name = ("law" : PySem.Str) := by kernel_rfl
      rw [← e]
      exact hmg0
    obtain ⟨fd, hb, hF⟩ := K01.facts (P := (PySem.Challenge.rw_manycaches_k01_not_protocols).prog) (w := w) KX G hmg c
    refine ⟨K, fd, MC.spM (K01.Cc K) 1 (K01.Φ 29), KX, hb, fun H a ns hl hO hS => ?_, fun base h1 h2 => MC.FnOk.cx (hF base h1 h2) fun o H s E e s' z => ⟨w, z⟩⟩
    obtain ⟨g', e⟩ := K01.law_true hl
    exact ⟨rfl, [], [], [.scr ns], MC.Sto.nil, ⟨_, _, rfl, ⟨a, rfl, MC.scr_of hO hS⟩, rfl⟩, .ok (.bl true), g', e, fun v ρ' H' _ _ rv => rv⟩
