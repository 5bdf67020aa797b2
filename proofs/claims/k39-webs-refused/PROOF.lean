import PyProof.Rows.All
import Wide.All
import OpenK.AllK
import Wide.FinOn
import PySem.Challenge.RW_waysthatcross_k39_webs_and_orders_refuse
import HandS.ForMost
import HandS.ForExc
import HandS.EndBits
import HandS.Conv
import HandS.DictComp
import HandS.WordsDict
import HandS.TupLen
import HandS.MakeKw
import HandS.MakeKwOnly
import HandS.Iter
import HandS.Zip
import KE.GoesMore
import PyProof.Draws
import HandS.IsInst
import HandS.SlotsOwn
import KE.KFmtOwn
import PyProof.InstEq
import KE.KIsAll
import HandS.NoneIn
import HandS.Small
import HandS.Deep
import HandS.Style
import HandS.Wide
import HandS.SortInts
import HandS.TupAny
import HandS.TupMul
import KE.KStar
import HandS.Lambda
import PyProof.ReprRoads
import HandS.Ends
import PyProof.Rows.RegStrFacts
import KE.SortData
import HandS.ListItems
import HandS.More
import HandS.ExcField
import HandS.EndTab
import HandS.ExcInit
import PyProof.EqKinds
import KE.KDictPairs
import KE.KNest
import HandS.CallLocal
set_option Elab.async false
set_option linter.all false
set_option maxRecDepth 100000
set_option maxHeartbeats 4000000
section
open PySem PySem.W PyProof.Rows L2
set_option maxRecDepth 100000 in
set_option maxHeartbeats 0 in
open_top Lw.headTop for PySem.Challenge.rw_waysthatcross_k39_webs_and_orders_refuse
end

section
/-! MmN: isinstance of a def. -/
namespace Mm
open PySem
open PySem.Sem (wp)
open PySem.W (kitx_of KitX KitAt kitAt_ty)
theorem lk_fn_class : typeLookup (.type "function") "__class__" = pure (some (.builtin "object.__class__")) := by rw [typeLookup_type, builtinLookup_eq_fast]; kernel_rfl
theorem sub_fn_class_owner : isSubtype (.type "function") (.type (".".intercalate ("object.__class__".cutAt '.').dropLast)) = pure true := by
  rw [F.owner_object_class, isSubtype_type]; kernel_rfl
theorem slot_fn_getattribute : Slot "function" "__getattribute__" "object.__getattribute__" :=
  .of (owner := "object") (n := "__getattribute__") (by rw [typeLookup_type, builtinLookup_eq_fast]; kernel_rfl) (by decide +kernel) (by decide +kernel) (by decide +kernel)
    (by first | exact .inl (by decide +kernel) | exact .inr (by decide +kernel)) (by rw [isSubtype_type]; kernel_rfl)

section
variable {prog : Program} {w : World} {A : Around} {E : Value → Shared → Prop} {h : Heap} {g : Array GenState} {d : Drawn} {t : Nat} {os : OsState} {a : Addr} {o : Obj}

theorem class_get_fn {R : Result → Shared → Prop} (hx : h.get? a = some o) (hc : o.cls = .type "function") (hq : R (.ok (.ret (.type "function"))) ⟨h, g, d, t, os⟩) :
    codeAny (model prog w) A (.call (.builtin "getset_descriptor.__get__") ⟨[.builtin "object.__class__", .ref a, .type "function"], []⟩) R ⟨h, g, d, t, os⟩ := by
  have hT : (⟨h, g, d, t, os⟩ : Shared).TypeIs (.ref a) "function" := ⟨_, hx, hc⟩
  have hT5 : (⟨h, g, d, t, os⟩ : Shared).TypeIs (.builtin "object.__class__") "getset_descriptor" := F.typeOf_object_class
  have f8 := sub_fn_class_owner
  refine codeAny_call_builtin F.slot_gs_get.plain F.entry_gs_get (F.slot_gs_get.check _ _ _ _ _ _ _ _ hT5 (F.args_gs_get _ _ _) ?_)
  repeat (any_goals (first | assumption | wp_step))
  refine ⟨Code.quiet_builtin _ (by decide +kernel), codeAny_builtin F.entry_object_class ?_⟩
  repeat (any_goals (first | assumption | wp_step))

theorem class_entry_fn {tk : Tok} {Q : Fin → Shared → Prop} (hx : h.get? a = some o) (hc : o.cls = .type "function") (hq : Q (.done (.ret (.type "function"))) ⟨h, g, d, t, os⟩) :
    wpAny (model prog w) A (Builtin.«object.__getattribute__» ⟨[.ref a, .str "__class__" tk], []⟩) Q E ⟨h, g, d, t, os⟩ := by
  have hT : (⟨h, g, d, t, os⟩ : Shared).TypeIs (.ref a) "function" := ⟨_, hx, hc⟩
  have hT5 : (⟨h, g, d, t, os⟩ : Shared).TypeIs (.builtin "object.__class__") "getset_descriptor" := F.typeOf_object_class
  have f4 := lk_fn_class
  have f5 := F.typeOf_object_class
  have f6 := F.slot_gs_get.lookup
  have f7 := F.slot_gs_set.lookup
  repeat (any_goals (first | assumption | wp_step))
  refine class_get_fn hx hc ?_
  repeat (any_goals (first | assumption | wp_step))

theorem class_call_fn {tk : Tok} {R : Result → Shared → Prop} (hx : h.get? a = some o) (hc : o.cls = .type "function") (hq : R (.ok (.ret (.type "function"))) ⟨h, g, d, t, os⟩) :
    codeAny (model prog w) A (.call (.builtin "object.__getattribute__") ⟨[.ref a, .str "__class__" tk], []⟩) R ⟨h, g, d, t, os⟩ :=
  codeAny_call_builtin slot_fn_getattribute.plain F.entry_object_getattribute (slot_fn_getattribute.check _ _ _ _ _ _ _ _ (show (⟨h, g, d, t, os⟩ : Shared).TypeIs (.ref a) "function" from ⟨_, hx, hc⟩) (F.args_object_getattribute_2 _ _) (class_entry_fn hx hc hq))

theorem class_by_fn {tk : Tok} {Q : Value → Shared → Prop} (hx : h.get? a = some o) (hc : o.cls = .type "function") (hq : Q (.type "function") ⟨h, g, d, t, os⟩) : wpAny (model prog w) A (getAttrBy (.ref a) (.str "__class__" tk) false) Q E ⟨h, g, d, t, os⟩ := by
  have hT : (⟨h, g, d, t, os⟩ : Shared).TypeIs (.ref a) "function" := ⟨_, hx, hc⟩
  have f2 := slot_fn_getattribute.lookup
  have f3 := slot_fn_getattribute.bind (.ref a)
  repeat (any_goals (first | assumption | wp_step))
  refine class_call_fn hx hc ?_
  repeat (any_goals (first | assumption | wp_step))

theorem class_attr_fn {Q : Option Value → Shared → Prop} (hx : h.get? a = some o) (hc : o.cls = .type "function") (hq : Q (some (.type "function")) ⟨h, g, d, t + 1, os⟩) : wpAny (model prog w) A (getAttr? (.ref a) "__class__") Q E ⟨h, g, d, t, os⟩ := by
  unfold getAttr? getAttrBy?
  repeat (any_goals (first | assumption | with_reducible apply class_by_fn hx hc | wp_step))


end
theorem kitx_fn {K : PySem.W.Frag} {a : Addr} : KitX K (.ref a) (.type "function") (KitAt a "function") := kitx_of kitAt_ty (fun {_ _ _ _ _ s} p k => by obtain ⟨h, g, d, t, os⟩ := s; obtain ⟨o, h1, h2⟩ := p; exact class_attr_fn h1 h2 k)
end Mm
end

section
/-! MmA: values as trees, boxes for what changes, the state of a def, and how they stand for the heap. -/
namespace Mm
open PySem L2

inductive D where
  | non | bl (b : Bool) | int (i : Int) | str (x : Str) | ty (n : String) | glo (x : Str) | box (r : Nat)
  | lst (xs : List D) | tup (xs : List D) | scr (ns : List Int)

inductive Cell where
  | lst (xs : List D) | dK (kvs : List (Key × D)) | dT (kvs : List (List Key × D)) | ins (C : Str) (fs : List (Str × D))

/-- the boxes: how many there have been, what the live ones hold -/
structure G where
  nx : Nat
  cs : Nat → Option Cell

/-- a slot of a frame: nothing, a value, an object of its own -/
inductive Slot where
  | emp | val (d : D) | own (c : Cell)

structure Sg where
  sl : List Slot
  g : G

inductive R (α : Type) where
  | ok (a : α) (s : Sg) | exc (C : Str) (fs : List (Str × D)) (s : Sg) | stuck

abbrev M (α : Type) := Sg → R α
def R.bind {α β : Type} (r : R α) (k : α → Sg → R β) : R β := match r with
  | .ok a s => k a s
  | .exc C fs s => .exc C fs s
  | .stuck => .stuck
def bd {α β : Type} (m : M α) (k : α → M β) : M β := fun s => (m s).bind k
def ret {α : Type} (a : α) : M α := fun s => .ok a s
def nope {α : Type} : M α := fun _ => .stuck
@[simp] theorem bind_ok {α β : Type} (a : α) (s : Sg) (k : α → Sg → R β) : R.bind (.ok a s) k = k a s := rfl
@[simp] theorem bind_exc {α β : Type} (C : Str) (fs : List (Str × D)) (s : Sg) (k : α → Sg → R β) : R.bind (.exc C fs s) k = .exc C fs s := rfl
@[simp] theorem bind_stuck {α β : Type} (k : α → Sg → R β) : R.bind (.stuck : R α) k = .stuck := rfl

/-- what is written: the law's own objects by name -/
structure Gm where
  K : PySem.W.Frag
  gl : Str → Option Addr
  T : List (Addr × Str)
/-- the defs that make lambdas -/
class TabCtx where
  xs : List Str
/-- what their lambdas are called -/
def lamQ (x : Str) : Str := (x ++ ".<locals>.") ++ "<lambda>"
/-- the tables of their code objects -/
def tabsOf [TabCtx] (K : PySem.W.Frag) : List (Addr × Str) := TabCtx.xs.filterMap fun x => (PySem.W.tabIn K x).map fun p => (p.2, lamQ x)
/-- nothing, or a table -/
def Nn (H : Hp) (p : Addr) : Prop := ∀ o, H p = some o → ∃ ps, o = .tbl ps
theorem nn_none {H : Hp} {p : Addr} (h : H p = none) : Nn H p := fun o e => by rw [h] at e; cases e
/-- no table -/
def NT (o : HO) : Prop := ∀ ps, o ≠ .tbl ps
theorem Nn.ne {H : Hp} {a p : Addr} {u : HO} (e : H a = some u) (n : NT u) (h : Nn H p) : a ≠ p := fun z => by
  subst z
  obtain ⟨ps, q⟩ := h u e
  exact n ps q
theorem tabs_upd {T : List (Addr × Str)} {H : Hp} {p : Addr} {u : HO} (t : LamX.Tabs T H) (h : ∀ o, H p = some o → NT o ∧ ∀ q, o ≠ LamX.CodeO p q) : LamX.Tabs T (upd H p u) := fun x hx => by
  obtain ⟨ps, h1, h2, h3⟩ := t x hx
  refine ⟨ps, ?_, h2, fun pos cv e => ?_⟩
  · rw [upd_ne fun z => (h _ (by rw [← z]; exact h1)).1 ps rfl]; exact h1
  · obtain ⟨b, e1, e2⟩ := h3 pos cv e
    refine ⟨b, e1, ?_⟩
    rw [upd_ne fun z => by subst z; exact (h _ e2).2 _ rfl]; exact e2
theorem tabs_new {T : List (Addr × Str)} {H : Hp} {p : Addr} {u : HO} (t : LamX.Tabs T H) (h : H p = none) : LamX.Tabs T (upd H p u) := tabs_upd t fun o e => by rw [h] at e; cases e

/-- what never changes any more, and where the boxes stand -/
structure Wd where
  Hf : Hp
  ro : Nat → Addr
  n : Nat

mutual
def Rep (c : Gm) (w : Wd) : D → V → Prop
  | .non, v => v = .non
  | .bl b, v => v = .bl b
  | .int i, v => v = .int i
  | .str x, v => v = .str x
  | .ty n, v => v = .ty n
  | .glo x, v => ∃ a, c.gl x = some a ∧ v = .ref a
  | .box r, v => r < w.n ∧ v = .ref (w.ro r)
  | .scr ns, v => ∃ a, v = .ref a ∧ SqL c.K w.Hf a (ns.map V.int)
  | .lst xs, v => ∃ a vs, v = .ref a ∧ w.Hf a = some (.lst vs) ∧ Reps c w xs vs
  | .tup xs, v => ∃ a vs, v = .ref a ∧ w.Hf a = some (.tup vs) ∧ Reps c w xs vs
def Reps (c : Gm) (w : Wd) : List D → List V → Prop
  | [], vs => vs = []
  | x :: xs, vs => ∃ v r, vs = v :: r ∧ Rep c w x v ∧ Reps c w xs r
end

structure Le (w w' : Wd) : Prop where
  hf : ∀ a o, w.Hf a = some o → w'.Hf a = some o
  n : w.n ≤ w'.n
  ro : ∀ r, r < w.n → w'.ro r = w.ro r
theorem Le.refl (w : Wd) : Le w w := ⟨fun _ _ h => h, Nat.le_refl _, fun _ _ => rfl⟩
theorem Le.trans {w w1 w2 : Wd} (a : Le w w1) (b : Le w1 w2) : Le w w2 :=
  ⟨fun x o h => b.hf x o (a.hf x o h), Nat.le_trans a.n b.n, fun r h => (b.ro r (Nat.lt_of_lt_of_le h a.n)).trans (a.ro r h)⟩

theorem sqL_le {K : PySem.W.Frag} {H H' : Hp} {a : Addr} {xs : List V} (e : ∀ a o, H a = some o → H' a = some o) (h : SqL K H a xs) : SqL K H' a xs := by
  rcases h with (h | ⟨o, h⟩) | h
  · exact .inl (.inl (e _ _ h))
  · exact .inl (.inr ⟨o, e _ _ h⟩)
  · exact .inr h
section
variable {c : Gm} {w w' : Wd}
mutual
theorem Rep.mono (l : Le w w') : ∀ (d : D) (v : V), Rep c w d v → Rep c w' d v
  | .non, v, h => by simp only [Rep] at h ⊢; exact h
  | .bl b, v, h => by simp only [Rep] at h ⊢; exact h
  | .int i, v, h => by simp only [Rep] at h ⊢; exact h
  | .str x, v, h => by simp only [Rep] at h ⊢; exact h
  | .ty n, v, h => by simp only [Rep] at h ⊢; exact h
  | .glo x, v, h => by simp only [Rep] at h ⊢; exact h
  | .box r, v, h => by
    simp only [Rep] at h ⊢
    exact ⟨Nat.lt_of_lt_of_le h.1 l.n, by rw [l.ro r h.1]; exact h.2⟩
  | .scr ns, v, h => by
    simp only [Rep] at h ⊢
    obtain ⟨a, e, h1⟩ := h
    exact ⟨a, e, sqL_le l.hf h1⟩
  | .lst xs, v, h => by
    simp only [Rep] at h ⊢
    obtain ⟨a, vs, e, h1, h2⟩ := h
    exact ⟨a, vs, e, l.hf _ _ h1, Reps.mono l xs vs h2⟩
  | .tup xs, v, h => by
    simp only [Rep] at h ⊢
    obtain ⟨a, vs, e, h1, h2⟩ := h
    exact ⟨a, vs, e, l.hf _ _ h1, Reps.mono l xs vs h2⟩
theorem Reps.mono (l : Le w w') : ∀ (ds : List D) (vs : List V), Reps c w ds vs → Reps c w' ds vs
  | [], vs, h => by simp only [Reps] at h ⊢; exact h
  | x :: xs, vs, h => by
    simp only [Reps] at h ⊢
    obtain ⟨v, r, e, h1, h2⟩ := h
    exact ⟨v, r, e, Rep.mono l x v h1, Reps.mono l xs r h2⟩
end

theorem reps_nil {vs : List V} : Reps c w [] vs ↔ vs = [] := by simp only [Reps]
theorem reps_cons {x : D} {xs : List D} {vs : List V} : Reps c w (x :: xs) vs ↔ ∃ v r, vs = v :: r ∧ Rep c w x v ∧ Reps c w xs r := by simp only [Reps]
theorem Reps.cons {x : D} {xs : List D} {v : V} {vs : List V} (h : Rep c w x v) (t : Reps c w xs vs) : Reps c w (x :: xs) (v :: vs) := reps_cons.mpr ⟨v, vs, rfl, h, t⟩
theorem Reps.nil : Reps c w [] [] := reps_nil.mpr rfl
theorem Reps.length : ∀ {xs : List D} {vs : List V}, Reps c w xs vs → xs.length = vs.length
  | [], vs, h => by rw [reps_nil.mp h] <;> rfl
  | x :: xs, vs, h => by
    obtain ⟨v, r, rfl, _, t⟩ := reps_cons.mp h
    simp only [List.length_cons, Reps.length t]
theorem Reps.get : ∀ {xs : List D} {vs : List V} {i : Nat} {x : D}, Reps c w xs vs → xs[i]? = some x → ∃ v, vs[i]? = some v ∧ Rep c w x v
  | [], vs, i, x, h, e => by simp at e
  | y :: xs, vs, 0, x, h, e => by
    obtain ⟨v, r, rfl, q, t⟩ := reps_cons.mp h
    simp at e; subst e
    exact ⟨v, rfl, q⟩
  | y :: xs, vs, i + 1, x, h, e => by
    obtain ⟨v, r, rfl, q, t⟩ := reps_cons.mp h
    obtain ⟨u, h1, h2⟩ := Reps.get (i := i) (x := x) t (by simpa using e)
    exact ⟨u, by simpa using h1, h2⟩
theorem Reps.append : ∀ {xs ys : List D} {vs us : List V}, Reps c w xs vs → Reps c w ys us → Reps c w (xs ++ ys) (vs ++ us)
  | [], ys, vs, us, h, k => by rw [reps_nil.mp h]; exact k
  | x :: xs, ys, vs, us, h, k => by
    obtain ⟨v, r, rfl, q, t⟩ := reps_cons.mp h
    exact .cons q (Reps.append t k)
theorem Reps.snoc {xs : List D} {vs : List V} {x : D} {v : V} (h : Reps c w xs vs) (q : Rep c w x v) : Reps c w (xs ++ [x]) (vs ++ [v]) := h.append (.cons q .nil)
theorem Reps.set {x : D} {v : V} (q : Rep c w x v) : ∀ {xs : List D} {vs : List V} (i : Nat), Reps c w xs vs → Reps c w (xs.set i x) (vs.set i v)
  | [], vs, i, h => by rw [reps_nil.mp h]; exact .nil
  | y :: xs, vs, 0, h => by
    obtain ⟨u, r, rfl, _, t⟩ := reps_cons.mp h
    exact .cons q t
  | y :: xs, vs, i + 1, h => by
    obtain ⟨u, r, rfl, p, t⟩ := reps_cons.mp h
    exact .cons p (Reps.set q i t)
theorem Reps.take : ∀ {xs : List D} {vs : List V} (n : Nat), Reps c w xs vs → Reps c w (xs.take n) (vs.take n)
  | [], vs, n, h => by rw [reps_nil.mp h]; simp; exact .nil
  | y :: xs, vs, 0, h => by simp; exact .nil
  | y :: xs, vs, n + 1, h => by
    obtain ⟨u, r, rfl, p, t⟩ := reps_cons.mp h
    exact .cons p (Reps.take n t)
theorem Reps.drop : ∀ {xs : List D} {vs : List V} (n : Nat), Reps c w xs vs → Reps c w (xs.drop n) (vs.drop n)
  | [], vs, n, h => by rw [reps_nil.mp h]; simp; exact .nil
  | y :: xs, vs, 0, h => h
  | y :: xs, vs, n + 1, h => by
    obtain ⟨u, r, rfl, p, t⟩ := reps_cons.mp h
    exact Reps.drop n t
theorem Reps.eraseIdx : ∀ {xs : List D} {vs : List V} (i : Nat), Reps c w xs vs → Reps c w (xs.eraseIdx i) (vs.eraseIdx i)
  | [], vs, i, h => by rw [reps_nil.mp h]; simp; exact .nil
  | y :: xs, vs, 0, h => by
    obtain ⟨u, r, rfl, p, t⟩ := reps_cons.mp h
    exact t
  | y :: xs, vs, i + 1, h => by
    obtain ⟨u, r, rfl, p, t⟩ := reps_cons.mp h
    exact .cons p (Reps.eraseIdx i t)
theorem Reps.reverse : ∀ {xs : List D} {vs : List V}, Reps c w xs vs → Reps c w xs.reverse vs.reverse
  | [], vs, h => by rw [reps_nil.mp h]; exact .nil
  | y :: xs, vs, h => by
    obtain ⟨u, r, rfl, p, t⟩ := reps_cons.mp h
    rw [List.reverse_cons, List.reverse_cons]
    exact (Reps.reverse t).snoc p
theorem Reps.rep {xs : List D} {vs : List V} (h : Reps c w xs vs) : ∀ k : Nat, Reps c w (List.replicate k xs).flatten (List.replicate k vs).flatten
  | 0 => .nil
  | k + 1 => by rw [List.replicate_succ, List.replicate_succ, List.flatten_cons, List.flatten_cons]; exact h.append (Reps.rep h k)
theorem Reps.dropLast {xs : List D} {vs : List V} (h : Reps c w xs vs) : Reps c w xs.dropLast vs.dropLast := by
  rw [List.dropLast_eq_take, List.dropLast_eq_take, h.length]
  exact h.take _
theorem Reps.ints : ∀ {ns : List Int} {vs : List V}, Reps c w (ns.map D.int) vs → vs = ns.map V.int
  | [], vs, h => reps_nil.mp h
  | n :: ns, vs, h => by
    obtain ⟨u, r, rfl, p, t⟩ := reps_cons.mp h
    simp only [Rep] at p
    rw [p, Reps.ints t] <;> rfl
theorem Reps.ofInts : ∀ (ns : List Int), Reps c w (ns.map D.int) (ns.map V.int)
  | [] => .nil
  | n :: ns => .cons (by simp only [Rep]) (Reps.ofInts ns)
theorem Reps.bls : ∀ {ns : List Bool} {vs : List V}, Reps c w (ns.map D.bl) vs → vs = ns.map V.bl
  | [], vs, h => reps_nil.mp h
  | n :: ns, vs, h => by
    obtain ⟨u, r, rfl, p, t⟩ := reps_cons.mp h
    simp only [Rep] at p
    rw [p, Reps.bls t] <;> rfl
end

/-- at p stands what the cell tells -/
def CellR (c : Gm) (w : Wd) (H : Hp) (p : Addr) : Cell → Prop
  | .lst xs => ∃ vs, H p = some (.lst vs) ∧ Reps c w xs vs
  | .dK kvs => ∃ ys : List (Key × V), H p = some (.dK ys) ∧ ys.map (·.1) = kvs.map (·.1) ∧ Reps c w (kvs.map (·.2)) (ys.map (·.2))
  | .dT kvs => ∃ ys : List (List Key × V), H p = some (.dT ys) ∧ ys.map (·.1) = kvs.map (·.1) ∧ Reps c w (kvs.map (·.2)) (ys.map (·.2))
  | .ins C fs => ∃ (Ca dx : Addr) (ys : List (Str × V)), c.gl C = some Ca ∧ H p = some (.ins Ca dx ys) ∧ ys.map (·.1) = fs.map (·.1) ∧ Reps c w (fs.map (·.2)) (ys.map (·.2))
theorem CellR.mono {c : Gm} {w w' : Wd} {H H' : Hp} {p : Addr} (l : Le w w') (e : H' p = H p) : ∀ {x : Cell}, CellR c w H p x → CellR c w' H' p x
  | .lst xs, ⟨vs, h1, h2⟩ => ⟨vs, e.trans h1, Reps.mono l _ _ h2⟩
  | .dK kvs, ⟨ys, h1, h2, h3⟩ => ⟨ys, e.trans h1, h2, Reps.mono l _ _ h3⟩
  | .dT kvs, ⟨ys, h1, h2, h3⟩ => ⟨ys, e.trans h1, h2, Reps.mono l _ _ h3⟩
  | .ins C fs, ⟨Ca, dx, ys, h0, h1, h2, h3⟩ => ⟨Ca, dx, ys, h0, e.trans h1, h2, Reps.mono l _ _ h3⟩
theorem CellR.nt {c : Gm} {w : Wd} {H : Hp} {p : Addr} : ∀ {x : Cell}, CellR c w H p x → ∀ o, H p = some o → NT o ∧ ∀ q, o ≠ LamX.CodeO p q
  | .lst xs, ⟨vs, h1, h2⟩, o, e => by rw [h1] at e; cases e; exact ⟨fun _ z => (by cases z), fun _ z => (by unfold LamX.CodeO at z; cases z)⟩
  | .dK kvs, ⟨ys, h1, h2, h3⟩, o, e => by rw [h1] at e; cases e; exact ⟨fun _ z => (by cases z), fun _ z => (by unfold LamX.CodeO at z; cases z)⟩
  | .dT kvs, ⟨ys, h1, h2, h3⟩, o, e => by rw [h1] at e; cases e; exact ⟨fun _ z => (by cases z), fun _ z => (by unfold LamX.CodeO at z; cases z)⟩
  | .ins C fs, ⟨Ca, dx, ys, h0, h1, h2, h3⟩, o, e => by rw [h1] at e; cases e; exact ⟨fun _ z => (by cases z), fun _ z => (by unfold LamX.CodeO at z; cases z)⟩
theorem nt_lst {H : Hp} {p : Addr} {xs : List V} (h : H p = some (.lst xs)) : ∀ o, H p = some o → NT o ∧ ∀ q, o ≠ LamX.CodeO p q := fun o e => by
  rw [h] at e; cases e; exact ⟨fun _ z => (by cases z), fun _ z => (by unfold LamX.CodeO at z; cases z)⟩
theorem nt_dK {H : Hp} {p : Addr} {xs : List (Key × V)} (h : H p = some (.dK xs)) : ∀ o, H p = some o → NT o ∧ ∀ q, o ≠ LamX.CodeO p q := fun o e => by
  rw [h] at e; cases e; exact ⟨fun _ z => (by cases z), fun _ z => (by unfold LamX.CodeO at z; cases z)⟩
theorem NT.lst {xs : List V} : NT (.lst xs) := fun _ z => by cases z
theorem NT.tup {xs : List V} : NT (.tup xs) := fun _ z => by cases z
theorem NT.dK {xs : List (Key × V)} : NT (.dK xs) := fun _ z => by cases z
theorem NT.dT {xs : List (List Key × V)} : NT (.dT xs) := fun _ z => by cases z
theorem NT.ins {C d : Addr} {xs : List (Str × V)} : NT (.ins C d xs) := fun _ z => by cases z
theorem CellR.there {c : Gm} {w : Wd} {H : Hp} {p : Addr} : ∀ {x : Cell}, CellR c w H p x → ∃ o, H p = some o
  | .lst xs, ⟨vs, h1, h2⟩ => ⟨_, h1⟩
  | .dK kvs, ⟨ys, h1, h2, h3⟩ => ⟨_, h1⟩
  | .dT kvs, ⟨ys, h1, h2, h3⟩ => ⟨_, h1⟩
  | .ins C fs, ⟨Ca, dx, ys, h0, h1, h2, h3⟩ => ⟨_, h1⟩

abbrev FSt := L2.St
def slotV (σ : FSt) (i : Nat) (v : V) : Prop := σ[i]? = some (some v)

structure Sim (c : Gm) (w : Wd) (S : Sg) (σ : FSt) (H : Hp) : Prop where
  n : w.n = S.g.nx
  fzz : ∀ a o, w.Hf a = some o → H a = some o ∧ NT o
  cell : ∀ r x, S.g.cs r = some x → r < w.n ∧ CellR c w H (w.ro r) x ∧ w.Hf (w.ro r) = none
  inj : ∀ r r' x x', S.g.cs r = some x → S.g.cs r' = some x' → w.ro r = w.ro r' → r = r'
  len : S.sl.length = σ.length
  val : ∀ i d, S.sl[i]? = some (.val d) → ∃ v, slotV σ i v ∧ Rep c w d v
  own : ∀ i x, S.sl[i]? = some (.own x) → ∃ p, slotV σ i (.ref p) ∧ CellR c w H p x ∧ w.Hf p = none ∧ ∀ r y, S.g.cs r = some y → w.ro r ≠ p
  ownInj : ∀ i j x y p, S.sl[i]? = some (.own x) → S.sl[j]? = some (.own y) → slotV σ i (.ref p) → slotV σ j (.ref p) → i = j
  tb : LamX.Tabs c.T H

theorem Sim.fz {c : Gm} {w : Wd} {S : Sg} {σ : FSt} {H : Hp} (s : Sim c w S σ H) (a : Addr) (o : HO) (e : w.Hf a = some o) : H a = some o := (s.fzz a o e).1

/-- what may still change: the boxes and the own objects -/
def Mu (w : Wd) (S : Sg) (σ : FSt) (a : Addr) : Prop :=
  (∃ r x, S.g.cs r = some x ∧ w.ro r = a) ∨ ∃ i x, S.sl[i]? = some (.own x) ∧ slotV σ i (.ref a)

structure Step (w : Wd) (S : Sg) (σ : FSt) (H : Hp) (w' : Wd) (S' : Sg) (σ' : FSt) (H' : Hp) : Prop where
  le : Le w w'
  keep : ∀ a o, H a = some o → NT o → w.Hf a = none → ¬ Mu w S σ a → H' a = some o ∧ w'.Hf a = none ∧ ¬ Mu w' S' σ' a
  th : ∀ a, Nn H' a → Nn H a
theorem upd_th {H : Hp} {p : Addr} {o : HO} (n : NT o) : ∀ a, Nn (upd H p o) a → Nn H a := fun a h => by
  by_cases e : a = p
  · obtain ⟨ps, q⟩ := h o (by rw [e, upd_same])
    exact absurd q (n ps)
  · intro u hu
    exact h u (by rw [upd_ne e]; exact hu)
theorem new_th {H : Hp} {p : Addr} {o : HO} (h : H p = none) : ∀ a, Nn (upd H p o) a → Nn H a := fun a k u hu => k u (by rw [upd_ne (ne_of_none hu h)]; exact hu)
theorem Step.refl (w : Wd) (S : Sg) (σ : FSt) (H : Hp) : Step w S σ H w S σ H := ⟨.refl w, fun _ _ h1 _ h2 h3 => ⟨h1, h2, h3⟩, fun _ h => h⟩
theorem Step.trans {w w1 w2 : Wd} {S S1 S2 : Sg} {σ σ1 σ2 : FSt} {H H1 H2 : Hp} (a : Step w S σ H w1 S1 σ1 H1) (b : Step w1 S1 σ1 H1 w2 S2 σ2 H2) : Step w S σ H w2 S2 σ2 H2 :=
  ⟨a.le.trans b.le, fun x o h1 n h2 h3 => let ⟨k1, k2, k3⟩ := a.keep x o h1 n h2 h3; b.keep x o k1 n k2 k3, fun x h => a.th x (b.th x h)⟩

section
variable {c : Gm} {w : Wd} {S : Sg} {σ : FSt} {H : Hp}
theorem Sim.mu (s : Sim c w S σ H) {a : Addr} (m : Mu w S σ a) : w.Hf a = none ∧ ∃ o, H a = some o := by
  rcases m with ⟨r, x, h1, h2⟩ | ⟨i, x, h1, h2⟩
  · obtain ⟨_, k2, k3⟩ := s.cell r x h1
    subst h2
    exact ⟨k3, k2.there⟩
  · obtain ⟨p, k1, k2, k3, _⟩ := s.own i x h1
    have e : some (some (V.ref p)) = some (some (V.ref a)) := k1.symm.trans h2
    cases e
    exact ⟨k3, k2.there⟩

/-- w with one more frozen object -/
def Wd.add (w : Wd) (p : Addr) (o : HO) : Wd := { w with Hf := upd w.Hf p o }
theorem Le.add {p : Addr} {o : HO} (h : w.Hf p = none) : Le w (w.add p o) :=
  ⟨fun a u e => by show upd w.Hf p o a = some u; rw [upd_ne (ne_of_none e h)]; exact e, Nat.le_refl _, fun _ _ => rfl⟩

theorem Sim.nofz (s : Sim c w S σ H) {p : Addr} (h : H p = none) : w.Hf p = none := by
  cases e : w.Hf p with
  | none => rfl
  | some o => rw [s.fz p o e] at h; cases h

/-- a new object, nobody's as yet -/
theorem Sim.laid (s : Sim c w S σ H) {p : Addr} (o : HO) (h : H p = none) : Sim c w S σ (upd H p o) where
  n := s.n
  fzz := fun a u e => by rw [upd_ne (ne_of_none (s.fz a u e) h)]; exact s.fzz a u e
  cell := fun r x e => by
    obtain ⟨k1, k2, k3⟩ := s.cell r x e
    obtain ⟨u, q⟩ := k2.there
    exact ⟨k1, k2.mono (.refl w) (upd_ne (ne_of_none q h)), k3⟩
  inj := s.inj
  len := s.len
  val := s.val
  own := fun i x e => by
    obtain ⟨q, k1, k2, k3, k4⟩ := s.own i x e
    obtain ⟨u, z⟩ := k2.there
    exact ⟨q, k1, k2.mono (.refl w) (upd_ne (ne_of_none z h)), k3, k4⟩
  ownInj := s.ownInj
  tb := tabs_new s.tb h
theorem Step.laid (w : Wd) (S : Sg) (σ : FSt) {p : Addr} (o : HO) (h : H p = none) : Step w S σ H w S σ (upd H p o) :=
  ⟨.refl w, fun a u h1 _ h2 h3 => ⟨by rw [upd_ne (ne_of_none h1 h)]; exact h1, h2, h3⟩, new_th h⟩
/-- nobody's object is frozen -/
theorem Sim.freeze (s : Sim c w S σ H) {p : Addr} {o : HO} (h : H p = some o) (hf : w.Hf p = none) (hm : ¬ Mu w S σ p) (hn : NT o := by first | exact NT.lst | exact NT.tup) : Sim c (w.add p o) S σ H where
  n := s.n
  fzz := fun a u e => by
    have e' : upd w.Hf p o a = some u := e
    by_cases q : a = p
    · subst q; rw [upd_same] at e'; rw [h, e']; cases e'; exact ⟨rfl, hn⟩
    · rw [upd_ne q] at e'; exact s.fzz a u e'
  cell := fun r x e => by
    obtain ⟨k1, k2, k3⟩ := s.cell r x e
    refine ⟨k1, k2.mono (.add hf) rfl, ?_⟩
    show upd w.Hf p o (w.ro r) = none
    rw [upd_ne fun q => hm (.inl ⟨r, x, e, q⟩)]; exact k3
  inj := s.inj
  len := s.len
  val := fun i d e => by
    obtain ⟨v, k1, k2⟩ := s.val i d e
    exact ⟨v, k1, Rep.mono (.add hf) _ _ k2⟩
  own := fun i x e => by
    obtain ⟨q, k1, k2, k3, k4⟩ := s.own i x e
    refine ⟨q, k1, k2.mono (.add hf) rfl, ?_, k4⟩
    show upd w.Hf p o q = none
    rw [upd_ne fun z => hm (.inr ⟨i, x, e, by subst z; exact k1⟩)]; exact k3
  ownInj := s.ownInj
  tb := s.tb
/-- from ahead of p's making: the freezing is a step -/
theorem Step.freeze {w0 : Wd} {S0 : Sg} {σ0 : FSt} {H0 : Hp} {p : Addr} {o : HO} (a : Step w0 S0 σ0 H0 w S σ H) (h0 : Nn H0 p) (hf : w.Hf p = none) : Step w0 S0 σ0 H0 (w.add p o) S σ H :=
  ⟨a.le.trans (.add hf), fun x u h1 n h2 h3 => by
    obtain ⟨k1, k2, k3⟩ := a.keep x u h1 n h2 h3
    refine ⟨k1, ?_, k3⟩
    show upd w.Hf p o x = none
    rw [upd_ne (h0.ne h1 n)]; exact k2, a.th⟩

/-- a box more -/
def Wd.bx (w : Wd) (p : Addr) : Wd := { w with n := w.n + 1, ro := fun r => if r = w.n then p else w.ro r }
def G.add (g : G) (x : Cell) : G := ⟨g.nx + 1, fun r => if r = g.nx then some x else g.cs r⟩
def G.put (g : G) (r : Nat) (x : Cell) : G := ⟨g.nx, fun q => if q = r then some x else g.cs q⟩
def G.del (g : G) (r : Nat) : G := ⟨g.nx, fun q => if q = r then none else g.cs q⟩
def Sg.up (S : Sg) (g : G) : Sg := ⟨S.sl, g⟩
def Sg.st (S : Sg) (i : Nat) (x : Slot) : Sg := ⟨S.sl.set i x, S.g⟩
theorem Le.bx {p : Addr} : Le w (w.bx p) :=
  ⟨fun _ _ e => e, Nat.le_succ _, fun r h => by show (if r = w.n then p else w.ro r) = w.ro r; rw [if_neg (Nat.ne_of_lt h)]⟩
theorem bx_new {p : Addr} : (w.bx p).ro w.n = p := if_pos rfl
theorem bx_old {p : Addr} {r : Nat} (h : r < w.n) : (w.bx p).ro r = w.ro r := if_neg (Nat.ne_of_lt h)
theorem add_new {g : G} {x : Cell} : (g.add x).cs g.nx = some x := if_pos rfl
theorem add_old {g : G} {x : Cell} {r : Nat} (h : r ≠ g.nx) : (g.add x).cs r = g.cs r := if_neg h
theorem Sim.box (s : Sim c w S σ H) {p : Addr} {x : Cell} (h : CellR c w H p x) (hf : w.Hf p = none) (hm : ¬ Mu w S σ p) : Sim c (w.bx p) (S.up (S.g.add x)) σ H where
  n := by show w.n + 1 = S.g.nx + 1; rw [s.n]
  fzz := s.fzz
  cell := fun r y e => by
    by_cases q : r = S.g.nx
    · have e' : (S.g.add x).cs r = some y := e
      rw [q, add_new] at e'; cases e'
      have er : (w.bx p).ro r = p := by rw [q, ← s.n]; exact bx_new
      rw [er]
      exact ⟨by rw [q, ← s.n]; exact Nat.lt_succ_self _, h.mono .bx rfl, hf⟩
    · have e' : S.g.cs r = some y := by have e2 : (S.g.add x).cs r = some y := e; rwa [add_old q] at e2
      obtain ⟨k1, k2, k3⟩ := s.cell r y e'
      rw [bx_old k1]
      exact ⟨Nat.lt_succ_of_lt k1, k2.mono .bx rfl, k3⟩
  inj := fun r r' y y' e e' z => by
    have f : ∀ {r y}, (S.g.add x).cs r = some y → (r = S.g.nx ∧ (w.bx p).ro r = p) ∨ (r < w.n ∧ S.g.cs r = some y ∧ (w.bx p).ro r = w.ro r) := fun {r y} e => by
      by_cases q : r = S.g.nx
      · exact .inl ⟨q, by rw [q, ← s.n]; exact bx_new⟩
      · rw [add_old q] at e
        obtain ⟨k1, k2, k3⟩ := s.cell r y e
        exact .inr ⟨k1, e, bx_old k1⟩
    rcases f e with ⟨q, a⟩ | ⟨q, a, b⟩ <;> rcases f e' with ⟨q', a'⟩ | ⟨q', a', b'⟩
    · rw [q, q']
    · rw [a, b'] at z
      exact absurd (.inl ⟨r', y', a', z.symm⟩) hm
    · rw [a', b] at z
      exact absurd (.inl ⟨r, y, a, z⟩) hm
    · rw [b, b'] at z
      exact s.inj r r' y y' a a' z
  len := s.len
  val := fun i d e => by
    obtain ⟨v, k1, k2⟩ := s.val i d e
    exact ⟨v, k1, Rep.mono .bx _ _ k2⟩
  own := fun i y e => by
    obtain ⟨q, k1, k2, k3, k4⟩ := s.own i y e
    refine ⟨q, k1, k2.mono .bx rfl, k3, fun r z ez => ?_⟩
    by_cases qq : r = S.g.nx
    · intro er
      have e2 : (w.bx p).ro r = p := by rw [qq, ← s.n]; exact bx_new
      rw [e2] at er
      exact hm (.inr ⟨i, y, e, by subst er; exact k1⟩)
    · have e' : S.g.cs r = some z := by have e2 : (S.g.add x).cs r = some z := ez; rwa [add_old qq] at e2
      obtain ⟨k5, _, _⟩ := s.cell r z e'
      rw [bx_old k5]
      exact k4 r z e'
  ownInj := s.ownInj
  tb := s.tb
theorem mu_bx (s : Sim c w S σ H) {p a : Addr} {x : Cell} (h : Mu (w.bx p) (S.up (S.g.add x)) σ a) : a = p ∨ Mu w S σ a := by
  rcases h with ⟨r, y, e, z⟩ | ⟨i, y, e, z⟩
  · by_cases q : r = S.g.nx
    · left
      have e2 : (w.bx p).ro r = p := by rw [q, ← s.n]; exact bx_new
      exact z.symm.trans e2
    · have e' : S.g.cs r = some y := by have e2 : (S.g.add x).cs r = some y := e; rwa [add_old q] at e2
      obtain ⟨k1, _, _⟩ := s.cell r y e'
      rw [bx_old k1] at z
      exact .inr (.inl ⟨r, y, e', z⟩)
  · exact .inr (.inr ⟨i, y, e, z⟩)
theorem Step.box {w0 : Wd} {S0 : Sg} {σ0 : FSt} {H0 : Hp} {p : Addr} {x : Cell} (s : Sim c w S σ H) (a : Step w0 S0 σ0 H0 w S σ H) (h0 : Nn H0 p) : Step w0 S0 σ0 H0 (w.bx p) (S.up (S.g.add x)) σ H :=
  ⟨a.le.trans .bx, fun b u h1 n h2 h3 => by
    obtain ⟨k1, k2, k3⟩ := a.keep b u h1 n h2 h3
    exact ⟨k1, k2, fun m => (mu_bx s m).elim (h0.ne h1 n) k3⟩, a.th⟩

/-- a box is written -/
theorem put_same {g : G} {r : Nat} {x : Cell} : (g.put r x).cs r = some x := if_pos rfl
theorem put_ne {g : G} {r q : Nat} {x : Cell} (h : q ≠ r) : (g.put r x).cs q = g.cs q := if_neg h
theorem Sim.put (s : Sim c w S σ H) {r : Nat} {x0 x : Cell} {o : HO} (h0 : S.g.cs r = some x0) (h : CellR c w (upd H (w.ro r) o) (w.ro r) x) : Sim c w (S.up (S.g.put r x)) σ (upd H (w.ro r) o) where
  n := s.n
  fzz := fun a u e => by
    have hf := (s.cell r x0 h0).2.2
    rw [upd_ne fun z => by rw [z, hf] at e; cases e]; exact s.fzz a u e
  cell := fun q y e => by
    obtain ⟨b1, b2, b3⟩ := s.cell r x0 h0
    by_cases z : q = r
    · subst z
      have e' : (S.g.put q x).cs q = some y := e
      rw [put_same] at e'; cases e'
      exact ⟨b1, h, b3⟩
    · have e' : S.g.cs q = some y := by have e2 : (S.g.put r x).cs q = some y := e; rwa [put_ne z] at e2
      obtain ⟨k1, k2, k3⟩ := s.cell q y e'
      exact ⟨k1, k2.mono (.refl w) (upd_ne fun a => z (s.inj q r y x0 e' h0 a)), k3⟩
  inj := fun q q' y y' e e' z => by
    have f : ∀ {q y}, (S.g.put r x).cs q = some y → ∃ y, S.g.cs q = some y := fun {q y} e => by
      by_cases z : q = r
      · exact ⟨x0, by rw [z]; exact h0⟩
      · rw [put_ne z] at e; exact ⟨y, e⟩
    obtain ⟨_, k⟩ := f e
    obtain ⟨_, k'⟩ := f e'
    exact s.inj q q' _ _ k k' z
  len := s.len
  val := s.val
  own := fun i y e => by
    obtain ⟨q, k1, k2, k3, k4⟩ := s.own i y e
    refine ⟨q, k1, k2.mono (.refl w) (upd_ne fun z => k4 r x0 h0 z.symm), k3, fun r' z ez => ?_⟩
    by_cases a : r' = r
    · rw [a]; exact k4 r x0 h0
    · have e' : S.g.cs r' = some z := by have e2 : (S.g.put r x).cs r' = some z := ez; rwa [put_ne a] at e2
      exact k4 r' z e'
  ownInj := s.ownInj
  tb := tabs_upd s.tb (s.cell r x0 h0).2.1.nt
theorem Step.put (s : Sim c w S σ H) {r : Nat} {x0 x : Cell} {o : HO} (h0 : S.g.cs r = some x0) (no : NT o) : Step w S σ H w (S.up (S.g.put r x)) σ (upd H (w.ro r) o) :=
  ⟨.refl w, fun a u h1 _ h2 h3 => by
    refine ⟨by rw [upd_ne fun z => h3 (.inl ⟨r, x0, h0, z.symm⟩)]; exact h1, h2, fun m => ?_⟩
    rcases m with ⟨q, y, e, z⟩ | m
    · by_cases k : q = r
      · exact h3 (.inl ⟨r, x0, h0, by rw [← k]; exact z⟩)
      · have e' : S.g.cs q = some y := by have e2 : (S.g.put r x).cs q = some y := e; rwa [put_ne k] at e2
        exact h3 (.inl ⟨q, y, e', z⟩)
    · exact h3 (.inr m), upd_th no⟩

/-- a box is let go: nobody's -/
theorem del_cs {g : G} {r q : Nat} {y : Cell} (e : (g.del r).cs q = some y) : q ≠ r ∧ g.cs q = some y := by
  have e2 : (if q = r then none else g.cs q) = some y := e
  by_cases z : q = r
  · rw [if_pos z] at e2; cases e2
  · rw [if_neg z] at e2; exact ⟨z, e2⟩
theorem Sim.del (s : Sim c w S σ H) (r : Nat) : Sim c w (S.up (S.g.del r)) σ H where
  n := s.n
  fzz := s.fzz
  cell := fun q y e => s.cell q y (del_cs e).2
  inj := fun q q' y y' e e' z => s.inj q q' y y' (del_cs e).2 (del_cs e').2 z
  len := s.len
  val := s.val
  own := fun i y e => by
    obtain ⟨q, k1, k2, k3, k4⟩ := s.own i y e
    exact ⟨q, k1, k2, k3, fun r' z ez => k4 r' z (del_cs ez).2⟩
  ownInj := s.ownInj
  tb := s.tb
theorem mu_del (s : Sim c w S σ H) {r : Nat} {x : Cell} (h : S.g.cs r = some x) : ¬ Mu w (S.up (S.g.del r)) σ (w.ro r) := by
  rintro (⟨q, y, e, z⟩ | ⟨i, y, e, z⟩)
  · obtain ⟨n, e'⟩ := del_cs e
    exact n (s.inj q r y x e' h z)
  · obtain ⟨q, k1, k2, k3, k4⟩ := s.own i y e
    have e2 : some (some (V.ref q)) = some (some (V.ref (w.ro r))) := k1.symm.trans z
    cases e2
    exact k4 r x h rfl
theorem mu_del_sub {r : Nat} {a : Addr} (m : Mu w (S.up (S.g.del r)) σ a) : Mu w S σ a := by
  rcases m with ⟨q, y, e, z⟩ | m
  · exact .inl ⟨q, y, (del_cs e).2, z⟩
  · exact .inr m
/-- a box is frozen -/
theorem Sim.frz (s : Sim c w S σ H) {r : Nat} {xs : List D} {vs : List V} (h : S.g.cs r = some (.lst xs)) (hv : H (w.ro r) = some (.lst vs)) : Sim c (w.add (w.ro r) (.lst vs)) (S.up (S.g.del r)) σ H :=
  (s.del r).freeze hv (s.cell r _ h).2.2 (mu_del s h)
theorem Step.frz (s : Sim c w S σ H) {r : Nat} {x : Cell} {o : HO} (h : S.g.cs r = some x) : Step w S σ H (w.add (w.ro r) o) (S.up (S.g.del r)) σ H :=
  ⟨.add (s.cell r _ h).2.2, fun a u h1 _ h2 h3 => by
    refine ⟨h1, ?_, fun m => h3 (mu_del_sub m)⟩
    show upd w.Hf (w.ro r) o a = none
    rw [upd_ne fun z => h3 (.inl ⟨r, x, h, z.symm⟩)]; exact h2, fun _ h => h⟩

/-! ### slots -/
theorem set_get {α : Type} {l : List α} {i j : Nat} {x y : α} (h : (l.set i x)[j]? = some y) : (j = i ∧ y = x) ∨ (j ≠ i ∧ l[j]? = some y) := by
  by_cases e : j = i
  · subst e
    rw [List.getElem?_set] at h
    split at h
    · split at h
      · cases h; exact .inl ⟨rfl, rfl⟩
      · cases h
    · rename_i z; exact absurd rfl z
  · rw [List.getElem?_set_ne (Ne.symm e)] at h
    exact .inr ⟨e, h⟩
theorem slotV_set {i : Nat} {v : V} (h : i < σ.length) : slotV (σ.set i (some v)) i v := by
  show (σ.set i (some v))[i]? = some (some v)
  rw [List.getElem?_set_self h]
theorem slotV_ne {i j : Nat} {v : V} {x : Option V} (e : j ≠ i) : slotV (σ.set i x) j v ↔ slotV σ j v := by
  show (σ.set i x)[j]? = some (some v) ↔ σ[j]? = some (some v)
  rw [List.getElem?_set_ne (Ne.symm e)]
/-- slot i gets a value -/
theorem Sim.setVal (s : Sim c w S σ H) {i : Nat} {d : D} {v : V} (r : Rep c w d v) : Sim c w (S.st i (.val d)) (σ.set i (some v)) H where
  n := s.n
  fzz := s.fzz
  cell := s.cell
  inj := s.inj
  len := by show (S.sl.set i _).length = (σ.set i _).length; rw [List.length_set, List.length_set]; exact s.len
  val := fun j d' e => by
    rcases set_get e with ⟨e1, e2⟩ | ⟨e1, e2⟩
    · cases e2
      have hi : j < σ.length := by
        rw [← s.len]
        have := (List.getElem?_eq_some_iff.mp e).1
        rwa [show (S.st i (.val d)).sl.length = S.sl.length from List.length_set] at this
      subst e1
      exact ⟨v, slotV_set hi, r⟩
    · obtain ⟨u, k1, k2⟩ := s.val j d' e2
      exact ⟨u, (slotV_ne e1).mpr k1, k2⟩
  own := fun j x e => by
    rcases set_get e with ⟨e1, e2⟩ | ⟨e1, e2⟩
    · cases e2
    · obtain ⟨p, k1, k2⟩ := s.own j x e2
      exact ⟨p, (slotV_ne e1).mpr k1, k2⟩
  ownInj := fun j j' x y p e e' k k' => by
    rcases set_get e with ⟨e1, e2⟩ | ⟨e1, e2⟩
    · cases e2
    · rcases set_get e' with ⟨e1', e2'⟩ | ⟨e1', e2'⟩
      · cases e2'
      · exact s.ownInj j j' x y p e2 e2' ((slotV_ne e1).mp k) ((slotV_ne e1').mp k')
  tb := s.tb
theorem mu_setVal {i : Nat} {d : D} {v : V} {a : Addr} (m : Mu w (S.st i (.val d)) (σ.set i (some v)) a) : Mu w S σ a := by
  rcases m with m | ⟨j, x, e, k⟩
  · exact .inl m
  · rcases set_get e with ⟨e1, e2⟩ | ⟨e1, e2⟩
    · cases e2
    · exact .inr ⟨j, x, e2, (slotV_ne e1).mp k⟩
theorem Step.setVal (w : Wd) (S : Sg) (σ : FSt) (H : Hp) {i : Nat} {d : D} {v : V} : Step w S σ H w (S.st i (.val d)) (σ.set i (some v)) H :=
  ⟨.refl w, fun a u h1 _ h2 h3 => ⟨h1, h2, fun m => h3 (mu_setVal m)⟩, fun _ h => h⟩
/-- slot i gets an object of its own -/
theorem Sim.setOwn (s : Sim c w S σ H) {i : Nat} {x : Cell} {p : Addr} (h : CellR c w H p x) (hf : w.Hf p = none) (hm : ¬ Mu w S σ p) : Sim c w (S.st i (.own x)) (σ.set i (some (.ref p))) H where
  n := s.n
  fzz := s.fzz
  cell := s.cell
  inj := s.inj
  len := by show (S.sl.set i _).length = (σ.set i _).length; rw [List.length_set, List.length_set]; exact s.len
  val := fun j d' e => by
    rcases set_get e with ⟨e1, e2⟩ | ⟨e1, e2⟩
    · cases e2
    · obtain ⟨u, k1, k2⟩ := s.val j d' e2
      exact ⟨u, (slotV_ne e1).mpr k1, k2⟩
  own := fun j y e => by
    rcases set_get e with ⟨e1, e2⟩ | ⟨e1, e2⟩
    · cases e2
      have hi : j < σ.length := by
        rw [← s.len]
        have := (List.getElem?_eq_some_iff.mp e).1
        rwa [show (S.st i (.own x)).sl.length = S.sl.length from List.length_set] at this
      subst e1
      exact ⟨p, slotV_set hi, h, hf, fun r y e z => hm (.inl ⟨r, y, e, z⟩)⟩
    · obtain ⟨q, k1, k2⟩ := s.own j y e2
      exact ⟨q, (slotV_ne e1).mpr k1, k2⟩
  ownInj := fun j j' y y' q e e' k k' => by
    have at_ : ∀ {j : Nat} {q : Addr}, j = i → slotV (σ.set i (some (.ref p))) j (.ref q) → q = p := fun {j q} e k => by
      subst e
      have k2 : (σ.set j (some (.ref p)))[j]? = some (some (.ref q)) := k
      have hi : j < σ.length := by
        have := (List.getElem?_eq_some_iff.mp k2).1
        rwa [List.length_set] at this
      rw [List.getElem?_set_self hi] at k2
      cases k2; rfl
    rcases set_get e with ⟨e1, e2⟩ | ⟨e1, e2⟩
    · rcases set_get e' with ⟨e1', e2'⟩ | ⟨e1', e2'⟩
      · rw [e1, e1']
      · have z := at_ e1 k
        subst z
        exact absurd (.inr ⟨j', y', e2', (slotV_ne e1').mp k'⟩) hm
    · rcases set_get e' with ⟨e1', e2'⟩ | ⟨e1', e2'⟩
      · have z := at_ e1' k'
        subst z
        exact absurd (.inr ⟨j, y, e2, (slotV_ne e1).mp k⟩) hm
      · exact s.ownInj j j' y y' q e2 e2' ((slotV_ne e1).mp k) ((slotV_ne e1').mp k')
  tb := s.tb
theorem Step.setOwn {w0 : Wd} {S0 : Sg} {σ0 : FSt} {H0 : Hp} {i : Nat} {x : Cell} {p : Addr} (a : Step w0 S0 σ0 H0 w S σ H) (h0 : Nn H0 p) : Step w0 S0 σ0 H0 w (S.st i (.own x)) (σ.set i (some (.ref p))) H :=
  ⟨a.le, fun b u h1 n h2 h3 => by
    obtain ⟨k1, k2, k3⟩ := a.keep b u h1 n h2 h3
    refine ⟨k1, k2, fun m => ?_⟩
    rcases m with m | ⟨j, y, e, k⟩
    · exact k3 (.inl m)
    · rcases set_get e with ⟨e1, e2⟩ | ⟨e1, e2⟩
      · subst e1
        have k4 : (σ.set j (some (.ref p)))[j]? = some (some (.ref b)) := k
        have hi : j < σ.length := by
          have := (List.getElem?_eq_some_iff.mp k4).1
          rwa [List.length_set] at this
        rw [List.getElem?_set_self hi] at k4
        cases k4
        exact h0.ne h1 n rfl
      · exact k3 (.inr ⟨j, y, e2, (slotV_ne e1).mp k⟩), a.th⟩
/-- an own object is written -/
theorem Sim.putOwn (s : Sim c w S σ H) {i : Nat} {x0 x : Cell} {p : Addr} {o : HO} (h0 : S.sl[i]? = some (.own x0)) (hp : slotV σ i (.ref p)) (h : CellR c w (upd H p o) p x) : Sim c w (S.st i (.own x)) σ (upd H p o) := by
  obtain ⟨p', b1, b2, b3, b4⟩ := s.own i x0 h0
  have ep : p' = p := by
    have e2 : some (some (V.ref p')) = some (some (V.ref p)) := b1.symm.trans hp
    cases e2; rfl
  subst ep
  exact {
    n := s.n
    fzz := fun a u e => by rw [upd_ne fun z => by rw [z, b3] at e; cases e]; exact s.fzz a u e
    cell := fun q y e => by
      obtain ⟨k1, k2, k3⟩ := s.cell q y e
      exact ⟨k1, k2.mono (.refl w) (upd_ne (b4 q y e)), k3⟩
    inj := s.inj
    len := by show (S.sl.set i _).length = σ.length; rw [List.length_set]; exact s.len
    val := fun j d e => by
      rcases set_get e with ⟨e1, e2⟩ | ⟨e1, e2⟩
      · cases e2
      · exact s.val j d e2
    own := fun j y e => by
      rcases set_get e with ⟨e1, e2⟩ | ⟨e1, e2⟩
      · cases e2
        subst e1
        exact ⟨p', hp, h, b3, b4⟩
      · obtain ⟨q, k1, k2, k3, k4⟩ := s.own j y e2
        exact ⟨q, k1, k2.mono (.refl w) (upd_ne fun z => e1 (s.ownInj j i y x0 p' e2 h0 (by rw [← z]; exact k1) hp)), k3, k4⟩
    ownInj := fun j j' y y' q e e' k k' => by
      have f : ∀ {j : Nat} {y : Cell}, (S.sl.set i (Slot.own x))[j]? = some (Slot.own y) → ∃ y, S.sl[j]? = some (Slot.own y) := fun {j y} e => by
        rcases set_get e with ⟨e1, e2⟩ | ⟨e1, e2⟩
        · exact ⟨x0, by rw [e1]; exact h0⟩
        · exact ⟨y, e2⟩
      obtain ⟨_, a⟩ := f e
      obtain ⟨_, a'⟩ := f e'
      exact s.ownInj j j' _ _ q a a' k k'
    tb := tabs_upd s.tb b2.nt }
theorem Step.putOwn {i : Nat} {x0 x : Cell} {p : Addr} {o : HO} (h0 : S.sl[i]? = some (.own x0)) (hp : slotV σ i (.ref p)) (no : NT o) : Step w S σ H w (S.st i (.own x)) σ (upd H p o) :=
  ⟨.refl w, fun a u h1 _ h2 h3 => by
    refine ⟨by rw [upd_ne fun z => h3 (.inr ⟨i, x0, h0, by rw [z]; exact hp⟩)]; exact h1, h2, fun m => ?_⟩
    rcases m with m | ⟨j, y, e, k⟩
    · exact h3 (.inl m)
    · rcases set_get e with ⟨e1, e2⟩ | ⟨e1, e2⟩
      · exact h3 (.inr ⟨i, x0, h0, by rw [← e1]; exact k⟩)
      · exact h3 (.inr ⟨j, y, e2, k⟩), upd_th no⟩
/-- an own list is frozen: the slot's value from now on -/
theorem Sim.frzOwn (s : Sim c w S σ H) {i : Nat} {xs : List D} {vs : List V} {p : Addr} (h0 : S.sl[i]? = some (.own (.lst xs))) (hp : slotV σ i (.ref p)) (hv : H p = some (.lst vs)) (hr : Reps c w xs vs) : Sim c (w.add p (.lst vs)) (S.st i (.val (.lst xs))) σ H := by
  obtain ⟨p', b1, b2, b3, b4⟩ := s.own i _ h0
  have ep : p' = p := by
    have e2 : some (some (V.ref p')) = some (some (V.ref p)) := b1.symm.trans hp
    cases e2; rfl
  subst ep
  have rep : Rep c (w.add p' (.lst vs)) (.lst xs) (.ref p') := by
    simp only [Rep]
    exact ⟨p', vs, rfl, upd_same, Reps.mono (.add b3) _ _ hr⟩
  exact {
    n := s.n
    fzz := fun a u e => by
      have e' : upd w.Hf p' _ a = some u := e
      by_cases q : a = p'
      · subst q; rw [upd_same] at e'; rw [hv, e']; cases e'; exact ⟨rfl, .lst⟩
      · rw [upd_ne q] at e'; exact s.fzz a u e'
    cell := fun r x e => by
      obtain ⟨k1, k2, k3⟩ := s.cell r x e
      refine ⟨k1, k2.mono (.add b3) rfl, ?_⟩
      show upd w.Hf p' _ (w.ro r) = none
      rw [upd_ne (b4 r x e)]; exact k3
    inj := s.inj
    len := by show (S.sl.set i _).length = σ.length; rw [List.length_set]; exact s.len
    val := fun j d e => by
      rcases set_get e with ⟨e1, e2⟩ | ⟨e1, e2⟩
      · cases e2
        subst e1
        exact ⟨_, hp, rep⟩
      · obtain ⟨v, k1, k2⟩ := s.val j d e2
        exact ⟨v, k1, Rep.mono (.add b3) _ _ k2⟩
    own := fun j y e => by
      rcases set_get e with ⟨e1, e2⟩ | ⟨e1, e2⟩
      · cases e2
      · obtain ⟨q, k1, k2, k3, k4⟩ := s.own j y e2
        refine ⟨q, k1, k2.mono (.add b3) rfl, ?_, k4⟩
        show upd w.Hf p' _ q = none
        rw [upd_ne fun z => e1 (s.ownInj j i y _ p' e2 h0 (by rw [← z]; exact k1) hp)]; exact k3
    ownInj := fun j j' y y' q e e' k k' => by
      rcases set_get e with ⟨e1, e2⟩ | ⟨e1, e2⟩
      · cases e2
      · rcases set_get e' with ⟨e1', e2'⟩ | ⟨e1', e2'⟩
        · cases e2'
        · exact s.ownInj j j' y y' q e2 e2' k k'
    tb := s.tb }
theorem Step.frzOwn (s : Sim c w S σ H) {i : Nat} {x : Cell} {d : D} {p : Addr} {o : HO} (h0 : S.sl[i]? = some (.own x)) (hp : slotV σ i (.ref p)) : Step w S σ H (w.add p o) (S.st i (.val d)) σ H := by
  obtain ⟨p', b1, b2, b3, b4⟩ := s.own i _ h0
  have ep : p' = p := by
    have e2 : some (some (V.ref p')) = some (some (V.ref p)) := b1.symm.trans hp
    cases e2; rfl
  subst ep
  refine ⟨.add b3, fun a u h1 _ h2 h3 => ⟨h1, ?_, fun m => ?_⟩, fun _ h => h⟩
  · show upd w.Hf p' o a = none
    rw [upd_ne fun z => h3 (.inr ⟨i, x, h0, by rw [z]; exact hp⟩)]; exact h2
  · rcases m with m | ⟨j, y, e, k⟩
    · exact h3 (.inl m)
    · rcases set_get e with ⟨e1, e2⟩ | ⟨e1, e2⟩
      · cases e2
      · exact h3 (.inr ⟨j, y, e2, k⟩)
end
end Mm
end

section
/-! MmB: readings by what is run; the rules of the plain expressions and statements. -/
namespace Mm
open PySem L2
variable [TabCtx]

def gmOf (K : PySem.W.Frag) (mg : Str → Option Value) : Gm := ⟨K, fun x => match mg x with | some (.ref a) => some a | _ => none, tabsOf K⟩
abbrev cg (X : Cx) : Gm := gmOf X.K X.mg

/-- an exception is let out -/
def ExcP (c : Gm) (E : XK) (C : Str) (fs : List (Str × D)) (S' : Sg) (w : Wd) (S : Sg) (σ : FSt) (H : Hp) : Prop :=
  ∀ w' σ' H' Ca dx ys, Step w S σ H w' S' σ' H' → Sim c w' S' σ' H' → c.gl C = some Ca → H' dx = some (.xd ys) → ys.map (·.1) = fs.map (·.1) → Reps c w' (fs.map (·.2)) (ys.map (·.2)) → E (.ref Ca) (some dx) H'
/-- what is wanted of a run -/
def Po {α : Type} (c : Gm) (E : XK) (r : R α) (w : Wd) (S : Sg) (σ : FSt) (H : Hp) (K : α → Wd → Sg → Hp → Prop) : Prop := match r with
  | .ok a S' => ∀ w' H', Step w S σ H w' S' σ H' → Sim c w' S' σ H' → K a w' S' H'
  | .exc C fs S' => ExcP c E C fs S' w S σ H
  | .stuck => False

section
variable {c : Gm} {E : XK} {α β : Type}
theorem Po.rebase {r : R α} {w w1 : Wd} {S S1 : Sg} {σ : FSt} {H H1 : Hp} {K : α → Wd → Sg → Hp → Prop} (st : Step w S σ H w1 S1 σ H1) (h : Po c E r w S σ H K) : Po c E r w1 S1 σ H1 K := by
  cases r with
  | ok a S' => exact fun w' H' s1 sm => h w' H' (st.trans s1) sm
  | exc C fs S' => exact fun w' σ' H' Ca dx ys s1 sm => h w' σ' H' Ca dx ys (st.trans s1) sm
  | stuck => exact h
theorem Po.imp {r : R α} {w : Wd} {S : Sg} {σ : FSt} {H : Hp} {K K' : α → Wd → Sg → Hp → Prop} (h : Po c E r w S σ H K)
    (k : ∀ a w' S' H', Step w S σ H w' S' σ H' → Sim c w' S' σ H' → K a w' S' H' → K' a w' S' H') : Po c E r w S σ H K' := by
  cases r with
  | ok a S' => exact fun w' H' s1 sm => k a w' S' H' s1 sm (h w' H' s1 sm)
  | exc C fs S' => exact h
  | stuck => exact h
theorem Po.bind {m : R α} {k : α → Sg → R β} {w : Wd} {S : Sg} {σ : FSt} {H : Hp} {K : β → Wd → Sg → Hp → Prop} (h : Po c E (m.bind k) w S σ H K) :
    Po c E m w S σ H fun a w1 S1 H1 => Po c E (k a S1) w1 S1 σ H1 K := by
  cases m with
  | ok a S' => exact fun w' H' s1 sm => Po.rebase s1 h
  | exc C fs S' => exact h
  | stuck => exact h
/-- both: the run's part, then what is wanted of it -/
theorem Po.two {m : R α} {k : α → Sg → R β} {w : Wd} {S : Sg} {σ : FSt} {H : Hp} {K : β → Wd → Sg → Hp → Prop} {K' : α → Wd → Sg → Hp → Prop} (h : Po c E (m.bind k) w S σ H K)
    (q : ∀ a w1 S1 H1, Step w S σ H w1 S1 σ H1 → Sim c w1 S1 σ H1 → Po c E (k a S1) w1 S1 σ H1 K → K' a w1 S1 H1) : Po c E m w S σ H K' := h.bind.imp q
end

def KD (c : Gm) (Q : VK) : D → Wd → Sg → Hp → Prop := fun d w' _ H' => ∀ v, Rep c w' d v → Q v H'
/-- a run that gives a value; a new object; a truth value; values; what stands in a list or tuple; a place -/
def TM (c : Gm) (E : XK) (m : M D) : TE := fun σ H Q => ∃ w S, Sim c w S σ H ∧ Po c E (m S) w S σ H (KD c Q)
def TC (c : Gm) (E : XK) (m : M Cell) : TE := fun σ H Q => ∃ w S, Sim c w S σ H ∧ Po c E (m S) w S σ H fun x w' S' H' => ∀ p, Nn H p → CellR c w' H' p x → w'.Hf p = none → ¬ Mu w' S' σ p → Q (.ref p) H'
def TB (c : Gm) (E : XK) (m : M Bool) : TT := fun σ H Q => ∃ w S, Sim c w S σ H ∧ Po c E (m S) w S σ H fun b _ _ H' => Q b H'
def TL (c : Gm) (E : XK) (m : M (List D)) : TA := fun σ H Q => ∃ w S, Sim c w S σ H ∧ Po c E (m S) w S σ H fun ds w' _ H' => ∀ vs, Reps c w' ds vs → Q vs H'
abbrev Vw := Bool × List D
def VwR (H : Hp) (b : Bool) (a : Addr) (vs : List V) : Prop := if b = true then H a = some (.lst vs) else H a = some (.tup vs)
/-- a handle: a value, or a slot that is looked into later -/
inductive Hd where
  | d (x : D) | sl (i : Nat)
def HdR (c : Gm) (w : Wd) (σ : FSt) (v : V) : Hd → Prop
  | .d x => Rep c w x v
  | .sl i => slotV σ i v
def TH (c : Gm) (E : XK) (m : M Hd) : TE := fun σ H Q => ∃ w S, Sim c w S σ H ∧ Po c E (m S) w S σ H fun h w' _ H' => ∀ v, HdR c w' σ v h → Q v H'
inductive Pl where
  | sl (i : Nat) | bx (r : Nat)
def PlAt (w : Wd) (σ : FSt) (p : Addr) : Pl → Prop
  | .sl i => slotV σ i (.ref p)
  | .bx r => r < w.n ∧ w.ro r = p
def TP (c : Gm) (E : XK) (m : M Pl) : TE := fun σ H Q => ∃ w S, Sim c w S σ H ∧ Po c E (m S) w S σ H fun P w' _ H' => ∀ p, PlAt w' σ p P → Q (.ref p) H'

theorem PE.weak {X : Cx} {e : Expr} {t t' : TE} (h : PE X e t) (k : ∀ σ H Q, t' σ H Q → t σ H Q) : PE X e t' := ⟨fun pins s σ H Q I q => h.run pins s σ H Q I (k σ H Q q)⟩
theorem PT.weak {X : Cx} {e : Expr} {t t' : TT} (h : PT X e t) (k : ∀ σ H Q, t' σ H Q → t σ H Q) : PT X e t' := ⟨fun pins s σ H Q I q => h.run pins s σ H Q I (k σ H Q q)⟩
theorem PW.weak {X : Cx} {e : Expr} {t t' : TT} (h : PW X e t) (k : ∀ σ H Q, t' σ H Q → t σ H Q) : PW X e t' := ⟨fun wh pins s σ H Q I q => h.run wh pins s σ H Q I (k σ H Q q)⟩
theorem PA.weak {X : Cx} {e : List Expr} {t t' : TA} (h : PA X e t) (k : ∀ σ H Q, t' σ H Q → t σ H Q) : PA X e t' := ⟨fun po pins s σ H Q I q => h.run po pins s σ H Q I (k σ H Q q)⟩
theorem PS.weak {X : Cx} {e : Stmt} {t t' : TS} (h : PS X e t) (k : ∀ D σ H, t' D σ H → t D σ H) : PS X e t' := ⟨fun pins s σ H D I q => h.run pins s σ H D I (k D σ H q)⟩
theorem PSs.weak {X : Cx} {e : List Stmt} {t t' : TS} (h : PSs X e t) (k : ∀ D σ H, t' D σ H → t D σ H) : PSs X e t' := ⟨fun pins s σ H D I q => h.run pins s σ H D I (k D σ H q)⟩
theorem PI.weak {X : Cx} {tg e : Expr} {t t' : TI} (h : PI X tg e t) (k : ∀ σ H R, t' σ H R → t σ H R) : PI X tg e t' := ⟨fun pins s σ H R I q => h.run pins s σ H R I (k σ H R q)⟩

/-! ### what is run: the parts -/
/-- a name's value; a list of its own is frozen by that -/
def rd (i : Nat) : M D := fun S => match S.sl[i]? with
  | some (.val d) => .ok d S
  | some (.own (.lst xs)) => .ok (.lst xs) (S.st i (.val (.lst xs)))
  | _ => .stuck
/-- what stands in a sequence -/
def vwD (S : Sg) : D → Option Vw
  | .lst xs => some (true, xs)
  | .tup xs => some (false, xs)
  | .box r => match S.g.cs r with | some (.lst xs) => some (true, xs) | _ => none
  | _ => none
def optM {α : Type} (o : Option α) : M α := fun S => match o with | some a => .ok a S | none => .stuck
def vwH (S : Sg) : Hd → Option Vw
  | .d x => vwD S x
  | .sl i => match S.sl[i]? with
    | some (.val d) => vwD S d
    | some (.own (.lst xs)) => some (true, xs)
    | _ => none
def hdE (m : M D) : M Hd := bd m fun d => ret (.d d)
def hdN (i : Nat) : M Hd := fun S => match S.sl[i]? with
  | some (.val d) => .ok (.d d) S
  | some (.own (.lst _)) => .ok (.sl i) S
  | _ => .stuck
/-- what stands in it now -/
def see (h : Hd) : M Vw := fun S => optM (vwH S h) S
def plN (i : Nat) : M Pl := fun S => match S.sl[i]? with
  | some (.val (.box r)) => .ok (.bx r) S
  | some (.own _) => .ok (.sl i) S
  | _ => .stuck
def plE (m : M D) : M Pl := fun S => (m S).bind fun d S1 => match d with | .box r => .ok (.bx r) S1 | _ => .stuck
def getP (P : Pl) (S : Sg) : Option Cell := match P with
  | .sl i => match S.sl[i]? with | some (.own x) => some x | _ => none
  | .bx r => S.g.cs r
def putP (P : Pl) (x : Cell) (S : Sg) : Sg := match P with
  | .sl i => S.st i (.own x)
  | .bx r => S.up (S.g.put r x)
def frzC : Cell → M D
  | .lst xs => ret (.lst xs)
  | _ => nope
def boxC (x : Cell) : M D := fun S => .ok (.box S.g.nx) (S.up (S.g.add x))
/-- a box is frozen -/
def frzD : D → M D
  | .box r => fun S => match S.g.cs r with | some (.lst xs) => .ok (.lst xs) (S.up (S.g.del r)) | _ => .stuck
  | d => ret d

section
variable {c : Gm} {E : XK} {w : Wd} {S : Sg} {σ : FSt} {H : Hp}
theorem PlAt.mono {w' : Wd} {p : Addr} (l : Le w w') : ∀ {P : Pl}, PlAt w σ p P → PlAt w' σ p P
  | .sl i, h => h
  | .bx r, h => ⟨Nat.lt_of_lt_of_le h.1 l.n, (l.ro r h.1).trans h.2⟩
theorem Sim.getP (s : Sim c w S σ H) {p : Addr} {x : Cell} : ∀ {P : Pl}, PlAt w σ p P → Mm.getP P S = some x → CellR c w H p x ∧ w.Hf p = none
  | .sl i, h, e => by
    have e2 : (match S.sl[i]? with | some (.own x) => some x | _ => none) = some x := e
    split at e2
    · rename_i x' hx
      cases e2
      obtain ⟨q, k1, k2, k3, _⟩ := s.own i _ hx
      have z : some (some (V.ref q)) = some (some (V.ref p)) := k1.symm.trans h
      cases z
      exact ⟨k2, k3⟩
    · cases e2
  | .bx r, h, e => by
    obtain ⟨k1, k2, k3⟩ := s.cell r x e
    rw [h.2] at k2 k3
    exact ⟨k2, k3⟩
theorem getP_sl {i : Nat} {x : Cell} (e : Mm.getP (.sl i) S = some x) : S.sl[i]? = some (.own x) := by
  have e2 : (match S.sl[i]? with | some (.own x) => some x | _ => none) = some x := e
  split at e2
  · rename_i x' hx; cases e2; exact hx
  · cases e2
theorem Sim.putP (s : Sim c w S σ H) {p : Addr} {x0 x : Cell} {o : HO} : ∀ {P : Pl}, PlAt w σ p P → Mm.getP P S = some x0 → CellR c w (upd H p o) p x → Sim c w (Mm.putP P x S) σ (upd H p o)
  | .sl i, h, e, k => s.putOwn (getP_sl e) h k
  | .bx r, h, e, k => by
    have h2 := h.2
    subst h2
    exact s.put e k
theorem Step.putP (s : Sim c w S σ H) {p : Addr} {x0 x : Cell} {o : HO} (no : NT o) : ∀ {P : Pl}, PlAt w σ p P → Mm.getP P S = some x0 → Step w S σ H w (Mm.putP P x S) σ (upd H p o)
  | .sl i, h, e => Step.putOwn (getP_sl e) h no
  | .bx r, h, e => by
    have h2 := h.2
    subst h2
    exact Step.put s e no
theorem vwR_of {d : D} {x : Vw} {v : V} (s : Sim c w S σ H) (r : Rep c w d v) (e : vwD S d = some x) : ∃ a vs, v = .ref a ∧ VwR H x.1 a vs ∧ Reps c w x.2 vs := by
  cases d with
  | lst xs =>
    simp only [vwD] at e; cases e
    simp only [Rep] at r
    obtain ⟨a, vs, rfl, h1, h2⟩ := r
    exact ⟨a, vs, rfl, s.fz _ _ h1, h2⟩
  | tup xs =>
    simp only [vwD] at e; cases e
    simp only [Rep] at r
    obtain ⟨a, vs, rfl, h1, h2⟩ := r
    exact ⟨a, vs, rfl, s.fz _ _ h1, h2⟩
  | box q =>
    simp only [vwD] at e
    split at e
    · rename_i xs hx
      cases e
      simp only [Rep] at r
      obtain ⟨h1, rfl⟩ := r
      obtain ⟨_, ⟨vs, k2, k3⟩, _⟩ := s.cell q _ hx
      exact ⟨_, vs, rfl, k2, k3⟩
    · cases e
  | _ => simp only [vwD] at e; cases e
end

section
variable {c : Gm} {E : XK} {w : Wd} {S : Sg} {σ : FSt} {H : Hp}
theorem HdR.mono {w' : Wd} {v : V} (l : Le w w') : ∀ {h : Hd}, HdR c w σ v h → HdR c w' σ v h
  | .d x, h => Rep.mono l x v h
  | .sl i, h => h
theorem vwH_of {h : Hd} {x : Vw} {v : V} (s : Sim c w S σ H) (r : HdR c w σ v h) (e : vwH S h = some x) : ∃ a vs, v = .ref a ∧ VwR H x.1 a vs ∧ Reps c w x.2 vs := by
  cases h with
  | d y => exact vwR_of s r e
  | sl i =>
    unfold vwH at e
    simp only at e
    split at e
    · rename_i d hd
      obtain ⟨v', h1, h2⟩ := s.val i d hd
      have r' : slotV σ i v := r
      have z : some (some v') = some (some v) := h1.symm.trans r'
      cases z
      exact vwR_of s h2 e
    · rename_i xs hx
      cases e
      obtain ⟨p, k1, ⟨vs, k2, k3⟩, k4, k5⟩ := s.own i _ hx
      have r' : slotV σ i v := r
      have z : some (some (V.ref p)) = some (some v) := k1.symm.trans r'
      cases z
      exact ⟨p, vs, rfl, k2, k3⟩
    · cases e
/-- a view is asked and there is one -/
theorem Po.see {h : Hd} {v : V} {α : Type} {k : Vw → Sg → R α} {K : α → Wd → Sg → Hp → Prop} (s : Sim c w S σ H) (r : HdR c w σ v h) (po : Po c E ((Mm.see h S).bind k) w S σ H K) :
    ∃ b ds a vs, vwH S h = some (b, ds) ∧ v = .ref a ∧ VwR H b a vs ∧ Reps c w ds vs ∧ Po c E (k (b, ds) S) w S σ H K := by
  unfold Mm.see optM at po
  cases e : vwH S h with
  | none => rw [e] at po; exact po.elim
  | some x =>
    rw [e] at po
    obtain ⟨b, ds⟩ := x
    obtain ⟨a, vs, h1, h2, h3⟩ := vwH_of s r e
    exact ⟨b, ds, a, vs, rfl, h1, h2, h3, po⟩
end
section
variable {X : Cx} {E : XK} {pos : Pos}
/-! ### the plain expressions -/
theorem me_var (i : Nat) {x : Str} (hN : X.N[i]? = some x := by rfl) (hv : Vis X.env.scope x := by first | exact Or.inl rfl | exact Or.inr (Or.inl rfl) | exact Or.inr (Or.inr rfl)) (hd : (x == ("__debug__" : Str)) = false := by decide)
    (hcd : (x == ("__classdict__" : Str)) = false := by decide) : PE X (.Name x pos) (TM (cg X) E (rd i)) := by
  refine PE.weak (pe_var hN hv hd hcd) fun σ H Q ⟨w, S, s, po⟩ => ?_
  unfold rd at po
  split at po
  · rename_i d hd
    obtain ⟨v, h1, h2⟩ := s.val i d hd
    exact ⟨v, h1, po w H (.refl ..) s v h2⟩
  · rename_i xs hx
    obtain ⟨p, k1, ⟨vs, k2, k3⟩, k4, k5⟩ := s.own i _ hx
    have s2 := s.frzOwn hx k1 k2 k3
    refine ⟨.ref p, k1, po _ H (Step.frzOwn s hx k1) s2 _ ?_⟩
    simp only [Rep]
    exact ⟨p, vs, rfl, upd_same, Reps.mono (.add k4) _ _ k3⟩
  · exact po.elim
theorem mh_var (i : Nat) {x : Str} (hN : X.N[i]? = some x := by rfl) (hv : Vis X.env.scope x := by first | exact Or.inl rfl | exact Or.inr (Or.inl rfl) | exact Or.inr (Or.inr rfl)) (hd : (x == ("__debug__" : Str)) = false := by decide)
    (hcd : (x == ("__classdict__" : Str)) = false := by decide) : PE X (.Name x pos) (TH (cg X) E (hdN i)) := by
  refine PE.weak (pe_var hN hv hd hcd) fun σ H Q ⟨w, S, s, po⟩ => ?_
  unfold hdN at po
  split at po
  · rename_i d hd
    obtain ⟨v, h1, h2⟩ := s.val i d hd
    exact ⟨v, h1, po w H (.refl ..) s v h2⟩
  · rename_i xs hx
    obtain ⟨p, k1, ⟨vs, k2, k3⟩, k4, k5⟩ := s.own i _ hx
    exact ⟨.ref p, k1, po w H (.refl ..) s _ k1⟩
  · exact po.elim
theorem mp_var (i : Nat) {x : Str} (hN : X.N[i]? = some x := by rfl) (hv : Vis X.env.scope x := by first | exact Or.inl rfl | exact Or.inr (Or.inl rfl) | exact Or.inr (Or.inr rfl)) (hd : (x == ("__debug__" : Str)) = false := by decide)
    (hcd : (x == ("__classdict__" : Str)) = false := by decide) : PE X (.Name x pos) (TP (cg X) E (plN i)) := by
  refine PE.weak (pe_var hN hv hd hcd) fun σ H Q ⟨w, S, s, po⟩ => ?_
  unfold plN at po
  split at po
  · rename_i r hd
    obtain ⟨v, h1, h2⟩ := s.val i _ hd
    simp only [Rep] at h2
    obtain ⟨h2, rfl⟩ := h2
    exact ⟨_, h1, po w H (.refl ..) s _ ⟨h2, rfl⟩⟩
  · rename_i xs hx
    obtain ⟨p, k1, _⟩ := s.own i _ hx
    exact ⟨.ref p, k1, po w H (.refl ..) s p k1⟩
  · exact po.elim
/-- from a value: what stands in it; its place -/
theorem mh_of {e : Expr} {m : M D} (h : PE X e (TM (cg X) E m)) : PE X e (TH (cg X) E (hdE m)) := by
  refine PE.weak h fun σ H Q ⟨w, S, s, po⟩ => ⟨w, S, s, ?_⟩
  exact Po.two po fun d w1 S1 H1 st s1 po1 v r => po1 w1 H1 (.refl ..) s1 v r
theorem mp_of {e : Expr} {m : M D} (h : PE X e (TM (cg X) E m)) : PE X e (TP (cg X) E (plE m)) := by
  refine PE.weak h fun σ H Q ⟨w, S, s, po⟩ => ⟨w, S, s, ?_⟩
  refine Po.two po fun d w1 S1 H1 st s1 po1 v r => ?_
  split at po1
  · rename_i q
    simp only [Rep] at r
    obtain ⟨h2, rfl⟩ := r
    exact po1 w1 H1 (.refl ..) s1 _ ⟨h2, rfl⟩
  · exact po1.elim
/-- a new object is frozen, becomes a box, is looked into -/
theorem me_frz {e : Expr} {m : M Cell} (h : PE X e (TC (cg X) E m)) : PE X e (TM (cg X) E (bd m frzC)) := by
  refine PE.weak h fun σ H Q ⟨w, S, s, po⟩ => ⟨w, S, s, ?_⟩
  cases e : m S with
  | ok x S' =>
    have po : Po (cg X) E ((m S).bind frzC) w S σ H (KD (cg X) Q) := po
    rw [e] at po
    intro w' H' st s' p hp hc hf hm
    cases x with
    | lst xs =>
      obtain ⟨vs, h1, h2⟩ := hc
      refine po (w'.add p (.lst vs)) H' (Step.freeze st hp hf) (s'.freeze h1 hf hm) _ ?_
      simp only [Rep]
      exact ⟨p, vs, rfl, upd_same, Reps.mono (.add hf) _ _ h2⟩
    | dK _ => exact po.elim
    | dT _ => exact po.elim
    | ins _ _ => exact po.elim
  | exc C fs S' =>
    have po : Po (cg X) E ((m S).bind frzC) w S σ H (KD (cg X) Q) := po
    rw [e] at po; exact po
  | stuck =>
    have po : Po (cg X) E ((m S).bind frzC) w S σ H (KD (cg X) Q) := po
    rw [e] at po; exact po
theorem me_box {e : Expr} {m : M Cell} (h : PE X e (TC (cg X) E m)) : PE X e (TM (cg X) E (bd m boxC)) := by
  refine PE.weak h fun σ H Q ⟨w, S, s, po⟩ => ⟨w, S, s, ?_⟩
  have po : Po (cg X) E ((m S).bind boxC) w S σ H (KD (cg X) Q) := po
  cases e : m S with
  | ok x S' =>
    rw [e] at po
    intro w' H' st s' p hp hc hf hm
    refine po (w'.bx p) H' (Step.box s' st hp) (s'.box hc hf hm) _ ?_
    simp only [Rep]
    refine ⟨?_, ?_⟩
    · show S'.g.nx < w'.n + 1
      rw [s'.n]; exact Nat.lt_succ_self _
    · rw [← s'.n, bx_new]
  | exc C fs S' => rw [e] at po; exact po
  | stuck => rw [e] at po; exact po
/-- a box is frozen where it is given -/
theorem me_fz {e : Expr} {m : M D} (h : PE X e (TM (cg X) E m)) : PE X e (TM (cg X) E (bd m frzD)) := by
  refine PE.weak h fun σ H Q ⟨w, S, s, po⟩ => ⟨w, S, s, ?_⟩
  refine Po.two (k := frzD) po fun d w1 S1 H1 st s1 po1 v r => ?_
  cases d with
  | box q =>
    unfold frzD at po1
    simp only at po1
    split at po1
    · rename_i xs hx
      simp only [Rep] at r
      obtain ⟨h1, rfl⟩ := r
      obtain ⟨_, ⟨vs, k2, k3⟩, k4⟩ := s1.cell q _ hx
      refine po1 _ H1 (Step.frz s1 hx) (s1.frz hx k2) _ ?_
      simp only [Rep]
      exact ⟨_, vs, rfl, upd_same, Reps.mono (.add k4) _ _ k3⟩
    · exact po1.elim
  | _ => exact po1 w1 H1 (.refl ..) s1 v r

/-- a value that is written -/
theorem me_c {e : Expr} {v : V} (d : D) (h : PE X e (tC v)) (hr : ∀ w, Rep (cg X) w d v) : PE X e (TM (cg X) E (ret d)) :=
  PE.weak h fun σ H Q ⟨w, S, s, po⟩ => po w H (.refl ..) s v (hr w)
theorem me_int {i : Int} {j : Nat} : PE X (.Constant (.int i) j pos) (TM (cg X) E (ret (.int i))) := me_c _ pe_int fun w => by simp only [Rep]
theorem me_bl {b : Bool} {j : Nat} : PE X (.Constant (.bool b) j pos) (TM (cg X) E (ret (.bl b))) := me_c _ pe_bl fun w => by simp only [Rep]
theorem me_non {j : Nat} : PE X (.Constant .none j pos) (TM (cg X) E (ret .non)) := me_c _ pe_non fun w => by simp only [Rep]
theorem me_str {x : Str} {j : Nat} : PE X (.Constant (.str x) j pos) (TM (cg X) E (ret (.str x))) := me_c _ pe_str fun w => by simp only [Rep]
theorem gl_of {x : Str} {a : Addr} (h : X.mg x = some (.ref a)) : (cg X).gl x = some a := by
  show (match X.mg x with | some (.ref a) => some a | _ => none) = some a
  rw [h]
theorem me_glo {x : Str} {a : Addr} (hg : Gl X x) (hm : X.mg x = some (.ref a)) (hd : (x == ("__debug__" : Str)) = false := by decide) : PE X (.Name x pos) (TM (cg X) E (ret (.glo x))) :=
  me_c _ (pe_glob (v := .ref a) hg hm rfl hd) fun w => by simp only [Rep]; exact ⟨a, gl_of hm, rfl⟩
theorem me_ty {x : Str} {n : String} (hg : Gl X x) (hm : X.mg x = none) (hv : bootBuiltins x = some (.type n)) (hn : x ≠ "__name__" := by decide) (hd : (x == ("__debug__" : Str)) = false := by decide) : PE X (.Name x pos) (TM (cg X) E (ret (.ty n))) :=
  me_c _ (pe_bltn (v := .ty n) hg hm hv rfl hn hd) fun w => by simp only [Rep]

/-! ### operators on two values -/
/-- f, on values as trees, is what r asks -/
def OpM (c : Gm) (E : XK) (r : R2) (f : D → D → M D) : Prop := ∀ w S σ H d1 d2 v1 v2 Q, Sim c w S σ H → Rep c w d1 v1 → Rep c w d2 v2 → Po c E (f d1 d2 S) w S σ H (KD c Q) → r v1 v2 H Q
theorem top_of {c : Gm} {r : R2} {f : D → D → M D} (h : OpM c E r f) {ma mb : M D} : ∀ σ H Q, TM c E (bd ma fun x => bd mb fun y => f x y) σ H Q → tOp r (TM c E ma) (TM c E mb) σ H Q := by
  rintro σ H Q ⟨w, S, s, po⟩
  refine ⟨w, S, s, Po.two (k := fun x => bd mb fun y => f x y) po fun d1 w1 S1 H1 st1 s1 po1 v1 r1 => ?_⟩
  refine ⟨w1, S1, s1, Po.two (k := fun y => f d1 y) po1 fun d2 w2 S2 H2 st2 s2 po2 v2 r2 => ?_⟩
  exact h w2 S2 σ H2 d1 d2 v1 v2 Q s2 (Rep.mono st2.le _ _ r1) r2 po2
theorem me_op {op : Operator} {r : R2} {f : D → D → M D} {a b : Expr} {ma mb : M D} (ho : OpR X (binaryOp op) r) (hf : OpM (cg X) E r f) (ha : PE X a (TM (cg X) E ma)) (hb : PE X b (TM (cg X) E mb)) :
    PE X (.BinOp a op b pos) (TM (cg X) E (bd ma fun x => bd mb fun y => f x y)) := PE.weak (pe_op ho ha hb) (top_of hf)
theorem me_cmp {op : CmpOp} {r : R2} {f : D → D → M D} {a b : Expr} {ma mb : M D} (ho : OpR X (compareOp op) r) (hf : OpM (cg X) E r f) (ha : PE X a (TM (cg X) E ma)) (hb : PE X b (TM (cg X) E mb)) (hm : behindInMarks op b = false) :
    PE X (.Compare a [op] [b] pos) (TM (cg X) E (bd ma fun x => bd mb fun y => f x y)) := PE.weak (pe_cmpR ho ha hb hm) (top_of hf)
def asB : D → M Bool
  | .bl b => ret b
  | _ => nope
theorem test_of {c : Gm} {m : M D} : ∀ σ H Q, TB c E (bd m asB) σ H Q → tTest (TM c E m) σ H Q := by
  rintro σ H Q ⟨w, S, s, po⟩
  refine ⟨w, S, s, Po.two (k := asB) po fun d w1 S1 H1 st s1 po1 v r => ?_⟩
  cases d with
  | bl b =>
    simp only [Rep] at r
    exact ⟨b, r, po1 w1 H1 (.refl ..) s1⟩
  | _ => exact po1.elim
theorem TT_tTest_weak {t t' : TE} (k : ∀ σ H Q, t' σ H Q → t σ H Q) : ∀ σ H Q, tTest t' σ H Q → tTest t σ H Q := fun σ H Q h => k σ H _ h
theorem mt_cmp {op : CmpOp} {r : R2} {f : D → D → M D} {a b : Expr} {ma mb : M D} (ho : OpR X (compareOp op) r) (hf : OpM (cg X) E r f) (ha : PE X a (TM (cg X) E ma)) (hb : PE X b (TM (cg X) E mb)) (hm : behindInMarks op b = false) :
    PT X (.Compare a [op] [b] pos) (TB (cg X) E (bd (bd ma fun x => bd mb fun y => f x y) asB)) :=
  PT.weak (pt_cmpR ho ha hb hm) fun σ H Q h => TT_tTest_weak (top_of hf) σ H Q (test_of σ H Q h)
/-- any other expression as a test (its value is a bool) -/
theorem mt_val {e : Expr} {m : M D} (h : PE X e (TM (cg X) E m)) (he : ∀ whole, isTrue e X.env whole = (do let v ← whole; standAt e.pos; holding [v] (truthy v)) := by intro _; rfl) : PT X e (TB (cg X) E (bd m asB)) :=
  PT.weak (pt_val h he) fun σ H Q h => test_of σ H Q h
def notM (m : M Bool) : M Bool := bd m fun b => ret (!b)
def andM (a b : M Bool) : M Bool := bd a fun x => if x = true then b else ret false
def orM (a b : M Bool) : M Bool := bd a fun x => if x = true then ret true else b
theorem mt_not {e : Expr} {m : M Bool} (h : PT X e (TB (cg X) E m)) : PT X (.UnaryOp .Not e pos) (TB (cg X) E (notM m)) :=
  PT.weak (pt_not h) fun σ H Q ⟨w, S, s, po⟩ => ⟨w, S, s, Po.two (k := fun b => ret (!b)) po fun b w1 S1 H1 st s1 po1 => po1 w1 H1 (.refl ..) s1⟩
theorem mw_and1 {e : Expr} {m : M Bool} (h : PT X e (TB (cg X) E m)) : PW X (.BoolOp .And [e] pos) (TB (cg X) E m) := pw_and1 h
theorem mw_or1 {e : Expr} {m : M Bool} (h : PT X e (TB (cg X) E m)) : PW X (.BoolOp .Or [e] pos) (TB (cg X) E m) := pw_or1 h
theorem mw_and {a b : Expr} {rest : List Expr} {m k : M Bool} (ha : PT X a (TB (cg X) E m)) (hb : PW X (.BoolOp .And (b :: rest) pos) (TB (cg X) E k)) : PW X (.BoolOp .And (a :: b :: rest) pos) (TB (cg X) E (andM m k)) := by
  refine PW.weak (pw_and ha hb) fun σ H Q ⟨w, S, s, po⟩ => ⟨w, S, s, Po.two (k := fun x => if x = true then k else ret false) po fun x w1 S1 H1 st s1 po1 => ?_⟩
  cases x with
  | true => exact ⟨w1, S1, s1, po1⟩
  | false => exact po1 w1 H1 (.refl ..) s1
theorem mw_or {a b : Expr} {rest : List Expr} {m k : M Bool} (ha : PT X a (TB (cg X) E m)) (hb : PW X (.BoolOp .Or (b :: rest) pos) (TB (cg X) E k)) : PW X (.BoolOp .Or (a :: b :: rest) pos) (TB (cg X) E (orM m k)) := by
  refine PW.weak (pw_or ha hb) fun σ H Q ⟨w, S, s, po⟩ => ⟨w, S, s, Po.two (k := fun x => if x = true then ret true else k) po fun x w1 S1 H1 st s1 po1 => ?_⟩
  cases x with
  | false => exact ⟨w1, S1, s1, po1⟩
  | true => exact po1 w1 H1 (.refl ..) s1
theorem mt_w {e : Expr} {m : M Bool} (h : PW X e (TB (cg X) E m)) : PT X e (TB (cg X) E m) := h.pt
/-- .. as values -/
def andV (a b : M D) : M D := bd a fun x => match x with | .bl true => bd b (fun y => match y with | .bl k => ret (.bl k) | _ => nope) | .bl false => ret (.bl false) | _ => nope
def orV (a b : M D) : M D := bd a fun x => match x with | .bl false => bd b (fun y => match y with | .bl k => ret (.bl k) | _ => nope) | .bl true => ret (.bl true) | _ => nope
def notV (a : M D) : M D := bd a fun x => match x with | .bl k => ret (.bl (!k)) | _ => nope
theorem me_one {op : BoolOp} {a : Expr} {m : M D} (h : PE X a (TM (cg X) E m)) : PE X (.BoolOp op [a] pos) (TM (cg X) E m) := pe_one h
theorem po_bl {c : Gm} {w : Wd} {S : Sg} {σ : FSt} {H : Hp} {Q : VK} {d : D} {v : V} (s : Sim c w S σ H) (r : Rep c w d v) (h : Po c E ((fun y => match y with | D.bl k => ret (.bl k) | _ => nope : D → M D) d S) w S σ H (KD c Q)) : Q v H := by
  cases d with
  | bl k =>
    exact h w H (.refl ..) s v r
  | _ => exact h.elim
theorem me_and {a b : Expr} {rest : List Expr} {m k : M D} (ha : PE X a (TM (cg X) E m)) (hb : PE X (.BoolOp .And (b :: rest) pos) (TM (cg X) E k)) : PE X (.BoolOp .And (a :: b :: rest) pos) (TM (cg X) E (andV m k)) := by
  refine PE.weak (pe_and ha hb) fun σ H Q ⟨w, S, s, po⟩ => ⟨w, S, s, ?_⟩
  unfold andV at po
  refine Po.two po fun x w1 S1 H1 st s1 po1 v r => ?_
  cases x with
  | bl b =>
    simp only [Rep] at r
    refine ⟨b, r, ?_⟩
    cases b with
    | true => exact ⟨w1, S1, s1, Po.two po1 fun y w2 S2 H2 st2 s2 po2 v2 r2 => po_bl s2 r2 po2⟩
    | false => exact po1 w1 H1 (.refl ..) s1 _ (by simp only [Rep])
  | _ => exact po1.elim
theorem me_not {a : Expr} {m : M D} (ha : PE X a (TM (cg X) E m)) : PE X (.UnaryOp .Not a pos) (TM (cg X) E (notV m)) := by
  refine PE.weak (pe_not ha) fun σ H Q ⟨w, S, s, po⟩ => ⟨w, S, s, ?_⟩
  unfold notV at po
  refine Po.two po fun x w1 S1 H1 st s1 po1 v r => ?_
  cases x with
  | bl b =>
    simp only [Rep] at r
    exact ⟨b, r, po1 w1 H1 (.refl ..) s1 _ (by simp only [Rep])⟩
  | _ => exact po1.elim
def ifM {α : Type} (b : M Bool) (x y : M α) : M α := bd b fun k => if k = true then x else y
theorem me_if {t a b : Expr} {mt : M Bool} {ma mb : M D} (ht : PT X t (TB (cg X) E mt)) (ha : PE X a (TM (cg X) E ma)) (hb : PE X b (TM (cg X) E mb)) : PE X (.IfExp t a b pos) (TM (cg X) E (ifM mt ma mb)) := by
  refine PE.weak (pe_ifExp ht ha hb) fun σ H Q ⟨w, S, s, po⟩ => ⟨w, S, s, Po.two (k := fun k => if k = true then ma else mb) po fun k w1 S1 H1 st s1 po1 => ?_⟩
  cases k with
  | true => exact ⟨w1, S1, s1, po1⟩
  | false => exact ⟨w1, S1, s1, po1⟩
end
end Mm
end

section
/-! MmC: operators on values, displays, subscripts, slices, built-ins. -/
namespace Mm
open PySem L2
variable [TabCtx]

section
variable {c : Gm} {E : XK} {w : Wd} {S : Sg} {σ : FSt} {H : Hp}
theorem rep_int {i : Int} {v : V} (h : Rep c w (.int i) v) : v = .int i := by simp only [Rep] at h; exact h
theorem rep_bl {i : Bool} {v : V} (h : Rep c w (.bl i) v) : v = .bl i := by simp only [Rep] at h; exact h
theorem of_int {i : Int} : Rep c w (.int i) (.int i) := by simp only [Rep]
theorem of_bl {i : Bool} : Rep c w (.bl i) (.bl i) := by simp only [Rep]
/-- a run that gives a value there is: what is wanted holds of it -/
theorem Po.at {d : D} {v : V} {Q : VK} (s : Sim c w S σ H) (h : Po c E (.ok d S) w S σ H (KD c Q)) (r : Rep c w d v) : Q v H := h w H (.refl ..) s v r
/-- a new tuple, a new list that is frozen -/
theorem Po.tupAt {ds : List D} {vs : List V} {Q : VK} {p : Addr} (s : Sim c w S σ H) (h : Po c E (.ok (.tup ds) S) w S σ H (KD c Q)) (r : Reps c w ds vs) (hp : H p = none) : Q (.ref p) (upd H p (.tup vs)) := by
  have hf : w.Hf p = none := s.nofz hp
  have st := Step.laid w S σ (.tup vs) hp
  have s1 := s.laid (.tup vs) hp
  have nm : ¬ Mu w S σ p := fun m => by obtain ⟨_, o, e⟩ := s.mu m; rw [hp] at e; cases e
  refine h (w.add p (.tup vs)) _ (Step.freeze st (nn_none hp) hf) (s1.freeze upd_same hf nm) _ ?_
  simp only [Rep]
  exact ⟨p, vs, rfl, upd_same, Reps.mono (.add hf) _ _ r⟩
theorem Po.lstAt {ds : List D} {vs : List V} {Q : VK} {p : Addr} (s : Sim c w S σ H) (h : Po c E (.ok (.lst ds) S) w S σ H (KD c Q)) (r : Reps c w ds vs) (hp : H p = none) : Q (.ref p) (upd H p (.lst vs)) := by
  have hf : w.Hf p = none := s.nofz hp
  have st := Step.laid w S σ (.lst vs) hp
  have s1 := s.laid (.lst vs) hp
  have nm : ¬ Mu w S σ p := fun m => by obtain ⟨_, o, e⟩ := s.mu m; rw [hp] at e; cases e
  refine h (w.add p (.lst vs)) _ (Step.freeze st (nn_none hp) hf) (s1.freeze upd_same hf nm) _ ?_
  simp only [Rep]
  exact ⟨p, vs, rfl, upd_same, Reps.mono (.add hf) _ _ r⟩
/-- a new object, of which TC speaks -/
theorem Po.newAt {x : Cell} {o : HO} {Q : VK} {p : Addr} (s : Sim c w S σ H) (h : Po c E (.ok x S) w S σ H fun x w' S' H' => ∀ p, Nn H p → CellR c w' H' p x → w'.Hf p = none → ¬ Mu w' S' σ p → Q (.ref p) H') (hp : H p = none) (r : CellR c w (upd H p o) p x) : Q (.ref p) (upd H p o) := by
  have hf : w.Hf p = none := s.nofz hp
  have nm : ¬ Mu w S σ p := fun m => by obtain ⟨_, o, e⟩ := s.mu m; rw [hp] at e; cases e
  exact h w _ (Step.laid w S σ o hp) (s.laid o hp) p (nn_none hp) r hf nm
end

/-! ### ints -/
def iop (f : Int → Int → M D) : D → D → M D
  | .int i, .int j => f i j
  | _, _ => nope
theorem opM_I0 {c : Gm} {E : XK} {g : Int → Int → V} {f : Int → Int → D} (h : ∀ w i j, Rep c w (f i j) (g i j)) : OpM c E (rI0 g) (iop fun i j => ret (f i j)) := by
  intro w S σ H d1 d2 v1 v2 Q s r1 r2 po
  cases d1 with
  | int i =>
    cases d2 with
    | int j => exact ⟨i, j, rep_int r1, rep_int r2, Po.at s po (h w i j)⟩
    | _ => exact po.elim
  | _ => exact po.elim
theorem opM_I {c : Gm} {E : XK} {C : Int → Int → Prop} [∀ i j, Decidable (C i j)] {g : Int → Int → V} {f : Int → Int → D} (h : ∀ w i j, Rep c w (f i j) (g i j)) : OpM c E (rI C g) (iop fun i j => if C i j then ret (f i j) else nope) := by
  intro w S σ H d1 d2 v1 v2 Q s r1 r2 po
  cases d1 with
  | int i =>
    cases d2 with
    | int j =>
      have po : Po c E ((if C i j then ret (f i j) else nope : M D) S) w S σ H (KD c Q) := po
      by_cases hc : C i j
      · rw [if_pos hc] at po
        exact ⟨i, j, rep_int r1, rep_int r2, hc, Po.at s po (h w i j)⟩
      · rw [if_neg hc] at po
        exact po.elim
    | _ => exact po.elim
  | _ => exact po.elim
instance {i j : Int} : Decidable (CMulW i j) := inferInstanceAs (Decidable (_ < _))
instance {i j : Int} : Decidable (CDivW i j) := inferInstanceAs (Decidable (_ ∧ _))
instance {i j : Int} : Decidable (CPow i j) := inferInstanceAs (Decidable (_ ∧ _))
def addI : D → D → M D := iop fun i j => ret (.int (i + j))
def subI : D → D → M D := iop fun i j => ret (.int (i - j))
def mulI : D → D → M D := iop fun i j => if CMulW i j then ret (.int (i * j)) else nope
def divI : D → D → M D := iop fun i j => if CDivW i j then ret (.int (i / j)) else nope
def modI : D → D → M D := iop fun i j => if 0 < j then ret (.int (i % j)) else nope
def powI : D → D → M D := iop fun i j => if CPow i j then ret (.int (i ^ j.toNat)) else nope
def ltI : D → D → M D := iop fun i j => ret (.bl (decide (i < j)))
def leI : D → D → M D := iop fun i j => ret (.bl (decide (i ≤ j)))
def gtI : D → D → M D := iop fun i j => ret (.bl (decide (j < i)))
def geI : D → D → M D := iop fun i j => ret (.bl (decide (j ≤ i)))
def bop (f : D → D → M D) (a b : M D) : M D := bd a fun x => bd b fun y => f x y
section
variable {X : Cx} {E : XK} {pos : Pos} {a b : Expr} {ma mb : M D}
theorem me_add (ha : PE X a (TM (cg X) E ma)) (hb : PE X b (TM (cg X) E mb)) : PE X (.BinOp a .Add b pos) (TM (cg X) E (bop addI ma mb)) := me_op op_add (opM_I0 fun _ _ _ => of_int) ha hb
theorem me_sub (ha : PE X a (TM (cg X) E ma)) (hb : PE X b (TM (cg X) E mb)) : PE X (.BinOp a .Sub b pos) (TM (cg X) E (bop subI ma mb)) := me_op op_sub (opM_I0 fun _ _ _ => of_int) ha hb
theorem me_mul (ha : PE X a (TM (cg X) E ma)) (hb : PE X b (TM (cg X) E mb)) : PE X (.BinOp a .Mult b pos) (TM (cg X) E (bop mulI ma mb)) := me_op op_mulW (opM_I fun _ _ _ => of_int) ha hb
theorem me_div (ha : PE X a (TM (cg X) E ma)) (hb : PE X b (TM (cg X) E mb)) : PE X (.BinOp a .FloorDiv b pos) (TM (cg X) E (bop divI ma mb)) := me_op op_fdivW (opM_I fun _ _ _ => of_int) ha hb
theorem me_mod (ha : PE X a (TM (cg X) E ma)) (hb : PE X b (TM (cg X) E mb)) : PE X (.BinOp a .Mod b pos) (TM (cg X) E (bop modI ma mb)) := me_op op_mod (opM_I fun _ _ _ => of_int) ha hb
theorem me_pow (ha : PE X a (TM (cg X) E ma)) (hb : PE X b (TM (cg X) E mb)) : PE X (.BinOp a .Pow b pos) (TM (cg X) E (bop powI ma mb)) := me_op op_pow (opM_I fun _ _ _ => of_int) ha hb
theorem me_lt (ha : PE X a (TM (cg X) E ma)) (hb : PE X b (TM (cg X) E mb)) : PE X (.Compare a [.Lt] [b] pos) (TM (cg X) E (bop ltI ma mb)) := me_cmp op_lt (opM_I0 fun _ _ _ => of_bl) ha hb (nomark _)
theorem me_ge (ha : PE X a (TM (cg X) E ma)) (hb : PE X b (TM (cg X) E mb)) : PE X (.Compare a [.GtE] [b] pos) (TM (cg X) E (bop geI ma mb)) := me_cmp op_ge (opM_I0 fun _ _ _ => of_bl) ha hb (nomark _)
def bopT (f : D → D → M D) (a b : M D) : M Bool := bd (bop f a b) asB
theorem mt_gt (ha : PE X a (TM (cg X) E ma)) (hb : PE X b (TM (cg X) E mb)) : PT X (.Compare a [.Gt] [b] pos) (TB (cg X) E (bopT gtI ma mb)) := mt_cmp op_gt (opM_I0 fun _ _ _ => of_bl) ha hb (nomark _)
theorem mt_ge (ha : PE X a (TM (cg X) E ma)) (hb : PE X b (TM (cg X) E mb)) : PT X (.Compare a [.GtE] [b] pos) (TB (cg X) E (bopT geI ma mb)) := mt_cmp op_ge (opM_I0 fun _ _ _ => of_bl) ha hb (nomark _)
def negM (a : M D) : M D := bd a fun x => match x with | .int i => ret (.int (-i)) | _ => nope
theorem me_neg (ha : PE X a (TM (cg X) E ma)) : PE X (.UnaryOp .USub a pos) (TM (cg X) E (negM ma)) := by
  refine PE.weak (pe_un un_neg ha) fun σ H Q ⟨w, S, s, po⟩ => ⟨w, S, s, Po.two po fun d w1 S1 H1 st s1 po1 v r => ?_⟩
  cases d with
  | int i => exact ⟨i, rep_int r, Po.at s1 po1 of_int⟩
  | _ => exact po1.elim
/-! ### chains -/
def chain2 (f g : D → D → M D) (a b k : M D) : M D := bd a fun x => bd b fun y => bd (f x y) fun z => match z with | .bl true => bd k fun u => g y u | .bl false => ret (.bl false) | _ => nope
variable {k : Expr} {mk : M D}
/-! ### is None -/
def isN : D → Bool
  | .non => true
  | _ => false
def isNM (a : M D) : M D := bd a fun x => ret (.bl (isN x))
def notNM (a : M D) : M D := bd a fun x => ret (.bl (!isN x))
theorem isN_of {c : Gm} {w : Wd} {d : D} {v : V} (r : Rep c w d v) : decide (v = .non) = isN d := by
  cases d <;> simp only [Rep] at r <;> simp only [isN]
  case glo x => obtain ⟨a, _, rfl⟩ := r; rfl
  case box x => obtain ⟨_, rfl⟩ := r; rfl
  case lst x => obtain ⟨a, _, rfl, _⟩ := r; rfl
  case tup x => obtain ⟨a, _, rfl, _⟩ := r; rfl
  case scr x => obtain ⟨a, rfl, _⟩ := r; rfl
  all_goals (subst r; rfl)
def isNT (a : M D) : M Bool := bd a fun x => ret (isN x)
def notNT (a : M D) : M Bool := bd a fun x => ret (!isN x)
theorem mt_notN {j : Nat} {p : Pos} (ha : PE X a (TM (cg X) E ma)) : PT X (.Compare a [.IsNot] [.Constant .none j p] pos) (TB (cg X) E (notNT ma)) := by
  refine PT.weak (pt_cmp (pc_notN ha)) fun σ H Q ⟨w, S, s, po⟩ => ⟨w, S, s, Po.two po fun d w1 S1 H1 st s1 po1 v r => ⟨_, rfl, ?_⟩⟩
  rw [isN_of r]; exact po1 w1 H1 (.refl ..) s1
end

/-! ### == of data -/
mutual
def pyD : D → Option PyData
  | .non => some .none
  | .bl b => some (.bool b)
  | .int i => some (.int i)
  | .str x => some (.str x)
  | .lst xs => (pyDs xs).map .list
  | .tup xs => (pyDs xs).map .tuple
  | .ty _ => none
  | .glo _ => none
  | .box _ => none
  | .scr _ => none
def pyDs : List D → Option (List PyData)
  | [] => some []
  | x :: xs => match pyD x, pyDs xs with
    | some p, some ps => some (p :: ps)
    | _, _ => none
end
section
variable {c : Gm} {w : Wd} {H : Hp}
mutual
theorem dp_of (hz : ∀ a o, w.Hf a = some o → H a = some o) : ∀ (d : D) (v : V) (p : PyData), Rep c w d v → pyD d = some p → Dp c.K H v p
  | .non, v, p, r, e => by simp only [Rep] at r; simp only [pyD] at e; cases e; subst r; exact .non
  | .bl b, v, p, r, e => by simp only [Rep] at r; simp only [pyD] at e; cases e; subst r; exact .bl b
  | .int b, v, p, r, e => by simp only [Rep] at r; simp only [pyD] at e; cases e; subst r; exact .int b
  | .str b, v, p, r, e => by simp only [Rep] at r; simp only [pyD] at e; cases e; subst r; exact .str b
  | .lst xs, v, p, r, e => by
    simp only [Rep] at r
    obtain ⟨a, vs, rfl, h1, h2⟩ := r
    simp only [pyD] at e
    obtain ⟨ps, e1, rfl⟩ := Option.map_eq_some_iff.mp e
    exact .lst (.inl (.inl (hz _ _ h1))) (dps_of hz xs vs ps h2 e1)
  | .tup xs, v, p, r, e => by
    simp only [Rep] at r
    obtain ⟨a, vs, rfl, h1, h2⟩ := r
    simp only [pyD] at e
    obtain ⟨ps, e1, rfl⟩ := Option.map_eq_some_iff.mp e
    exact .tup (.inl (.inl (hz _ _ h1))) (dps_of hz xs vs ps h2 e1)
  | .ty _, v, p, r, e => by simp only [pyD] at e; cases e
  | .glo _, v, p, r, e => by simp only [pyD] at e; cases e
  | .box _, v, p, r, e => by simp only [pyD] at e; cases e
  | .scr _, v, p, r, e => by simp only [pyD] at e; cases e
theorem dps_of (hz : ∀ a o, w.Hf a = some o → H a = some o) : ∀ (ds : List D) (vs : List V) (ps : List PyData), Reps c w ds vs → pyDs ds = some ps → DpAll c.K H vs ps
  | [], vs, ps, r, e => by
    rw [reps_nil.mp r]
    simp only [pyDs] at e; cases e; exact .nil
  | x :: xs, vs, ps, r, e => by
    obtain ⟨v, t, rfl, r1, r2⟩ := reps_cons.mp r
    simp only [pyDs] at e
    split at e
    · rename_i p ps' e1 e2
      cases e
      exact .cons (dp_of hz x v p r1 e1) (dps_of hz xs t ps' r2 e2)
    · cases e
end
end
def eqP (neg : Bool) (o1 o2 : Option PyData) : M D := match o1, o2 with
  | some p, some q => if (SeqAt.shaped p && SeqAt.shaped q) = true then ret (.bl (if neg then !PyData.eqv p q else PyData.eqv p q)) else nope
  | _, _ => nope
def eqM : D → D → M D := fun d1 d2 => eqP false (pyD d1) (pyD d2)
def neM : D → D → M D := fun d1 d2 => eqP true (pyD d1) (pyD d2)
theorem eqP_po {c : Gm} {E : XK} {w : Wd} {S : Sg} {σ : FSt} {H : Hp} {neg : Bool} {o1 o2 : Option PyData} {Q : VK} (s : Sim c w S σ H) (h : Po c E (eqP neg o1 o2 S) w S σ H (KD c Q)) :
    ∃ p q, o1 = some p ∧ o2 = some q ∧ SeqAt.shaped p = true ∧ SeqAt.shaped q = true ∧ Q (.bl (if neg then !PyData.eqv p q else PyData.eqv p q)) H := by
  unfold eqP at h
  split at h
  · rename_i p q
    by_cases e : (SeqAt.shaped p && SeqAt.shaped q) = true
    · rw [if_pos e] at h
      obtain ⟨e1, e2⟩ := Bool.and_eq_true_iff.mp e
      exact ⟨p, q, rfl, rfl, e1, e2, Po.at s h of_bl⟩
    · rw [if_neg e] at h
      exact h.elim
  · exact h.elim
theorem opM_eq {c : Gm} {E : XK} : OpM c E (rEqD c.K) eqM := by
  intro w S σ H d1 d2 v1 v2 Q s r1 r2 po
  obtain ⟨p, q, e1, e2, s1, s2, h⟩ := eqP_po s po
  exact ⟨p, q, dp_of s.fz d1 v1 p r1 e1, dp_of s.fz d2 v2 q r2 e2, s1, s2, h⟩
theorem opM_ne {c : Gm} {E : XK} : OpM c E (rNeD c.K) neM := by
  intro w S σ H d1 d2 v1 v2 Q s r1 r2 po
  obtain ⟨p, q, e1, e2, s1, s2, h⟩ := eqP_po s po
  exact ⟨p, q, dp_of s.fz d1 v1 p r1 e1, dp_of s.fz d2 v2 q r2 e2, s1, s2, h⟩
theorem hu64 {k : Nat} {A : Around} (hr : Room k A) : A.units + 64 < cLine := by have := hr.un; omega
theorem hu65 {k : Nat} {A : Around} (hr : Room k A) : A.units + 65 < cLine := by have := hr.un; omega
section
variable {X : Cx} {E : XK} {pos : Pos} {a b : Expr} {ma mb : M D} {va vb : M Vw} {n : Nat}
theorem me_eq (hr : Room n X.A) (ha : PE X a (TM (cg X) E ma)) (hb : PE X b (TM (cg X) E mb)) : PE X (.Compare a [.Eq] [b] pos) (TM (cg X) E (bop eqM ma mb)) := me_cmp (op_eqD (hu64 hr)) opM_eq ha hb (nomark _)
theorem mt_eq (hr : Room n X.A) (ha : PE X a (TM (cg X) E ma)) (hb : PE X b (TM (cg X) E mb)) : PT X (.Compare a [.Eq] [b] pos) (TB (cg X) E (bopT eqM ma mb)) := mt_cmp (op_eqD (hu64 hr)) opM_eq ha hb (nomark _)
theorem mt_ne (hr : Room n X.A) (ha : PE X a (TM (cg X) E ma)) (hb : PE X b (TM (cg X) E mb)) : PT X (.Compare a [.NotEq] [b] pos) (TB (cg X) E (bopT neM ma mb)) := mt_cmp (op_neD (hu64 hr)) opM_ne ha hb (nomark _)
/-- of two sequences by what stands in them -/
def pyV (x : Vw) : Option PyData := (pyDs x.2).map fun ps => if x.1 = true then .list ps else .tuple ps
def eqHM (neg : Bool) (a b : M Hd) : M D := bd a fun x => bd b fun y => bd (see x) fun u => bd (see y) fun v => eqP neg (pyV u) (pyV v)
theorem dp_vw {c : Gm} {w : Wd} {H : Hp} {x : Vw} {a : Addr} {vs : List V} {p : PyData} (hz : ∀ a o, w.Hf a = some o → H a = some o) (h : VwR H x.1 a vs) (r : Reps c w x.2 vs) (e : pyV x = some p) : Dp c.K H (.ref a) p := by
  unfold pyV at e
  obtain ⟨ps, e1, rfl⟩ := Option.map_eq_some_iff.mp e
  unfold VwR at h
  cases hx : x.1 with
  | true =>
    rw [hx, if_pos rfl] at h
    exact .lst (.inl (.inl h)) (dps_of hz _ _ _ r e1)
  | false =>
    rw [hx, if_neg Bool.false_ne_true] at h
    exact .tup (.inl (.inl h)) (dps_of hz _ _ _ r e1)
theorem teqH {c : Gm} {neg : Bool} {ha hb : M Hd} : ∀ σ H Q, TM c E (eqHM neg ha hb) σ H Q → tOp (if neg then rNeD c.K else rEqD c.K) (TH c E ha) (TH c E hb) σ H Q := by
  rintro σ H Q ⟨w, S, s, po⟩
  unfold eqHM at po
  refine ⟨w, S, s, Po.two po fun x w1 S1 H1 st1 s1 po1 v1 r1 => ?_⟩
  refine ⟨w1, S1, s1, Po.two po1 fun y w2 S2 H2 st2 s2 po2 v2 r2 => ?_⟩
  obtain ⟨b1, d1, a1, us1, e1, rfl, k1, q1, po3⟩ := Po.see s2 (r1.mono st2.le) po2
  obtain ⟨b2, d2, a2, us2, e2, rfl, k2, q2, po4⟩ := Po.see s2 r2 po3
  obtain ⟨p, q, f1, f2, g1, g2, h⟩ := eqP_po s2 po4
  have D1 := dp_vw (x := (b1, d1)) s2.fz k1 q1 f1
  have D2 := dp_vw (x := (b2, d2)) s2.fz k2 q2 f2
  cases neg with
  | true => exact ⟨p, q, D1, D2, g1, g2, h⟩
  | false => exact ⟨p, q, D1, D2, g1, g2, h⟩
variable {ha hb : M Hd}
theorem mt_neH (hr : Room n X.A) (h1 : PE X a (TH (cg X) E ha)) (h2 : PE X b (TH (cg X) E hb)) : PT X (.Compare a [.NotEq] [b] pos) (TB (cg X) E (bd (eqHM true ha hb) asB)) :=
  PT.weak (pt_cmpR (op_neD (hu64 hr)) h1 h2 (nomark _)) fun σ H Q h => TT_tTest_weak teqH σ H Q (test_of σ H Q h)
end
end Mm
end

section
/-! MmD: sequences: in, len, places, slices, joining, displays; the built-ins of one value. -/
namespace Mm
open PySem L2
variable [TabCtx]

/-! ### argument lists -/
def nilM : M (List D) := ret []
def consM (m : M D) (ms : M (List D)) : M (List D) := bd m fun d => bd ms fun ds => ret (d :: ds)
section
variable {X : Cx} {E : XK} {pos : Pos} {e : Expr} {es : List Expr} {m : M D} {ms : M (List D)}
theorem ml_nil : PA X [] (TL (cg X) E nilM) := PA.weak pa_nil fun σ H Q ⟨w, S, s, po⟩ => po w H (.refl ..) s [] .nil
theorem ml_cons (h : PE X e (TM (cg X) E m)) (t : PA X es (TL (cg X) E ms)) (hs : starEach (e :: es) X.env = (false, eval e X.env) :: starEach es X.env := by rfl) : PA X (e :: es) (TL (cg X) E (consM m ms)) := by
  refine PA.weak (pa_cons h t hs) fun σ H Q ⟨w, S, s, po⟩ => ?_
  refine ⟨w, S, s, Po.two (k := fun d => bd ms fun ds => ret (d :: ds)) po fun d w1 S1 H1 st s1 po1 v r => ?_⟩
  refine ⟨w1, S1, s1, Po.two (k := fun ds => ret (d :: ds)) po1 fun ds w2 S2 H2 st2 s2 po2 vs rs => ?_⟩
  exact po2 w2 H2 (.refl ..) s2 (v :: vs) (.cons (Rep.mono st2.le _ _ r) rs)
/-- a starred sequence in a display -/
def starM (h : M Hd) (ms : M (List D)) : M (List D) := bd h fun x => bd (see x) fun v => bd ms fun ds => ret (v.2 ++ ds)
/-! ### displays -/
def tupM (ms : M (List D)) : M D := bd ms fun ds => if ds.length ≤ sizeLine then ret (.tup ds) else nope
def lstM (ms : M (List D)) : M Cell := bd ms fun ds => if ds.length ≤ sizeLine then ret (.lst ds) else nope
theorem me_tup {x1 : Nat} (h : PA X es (TL (cg X) E ms)) : PE X (.Tuple es x1 pos) (TM (cg X) E (tupM ms)) := by
  refine PE.weak (pe_tup h) fun σ H Q ⟨w, S, s, po⟩ => ?_
  unfold tupM at po
  refine ⟨w, S, s, Po.two po fun ds w1 S1 H1 st s1 po1 vs r => ?_⟩
  by_cases hz : ds.length ≤ sizeLine
  · rw [if_pos hz] at po1
    exact ⟨by rw [← r.length]; exact hz, fun p hp => Po.tupAt s1 po1 r hp⟩
  · rw [if_neg hz] at po1; exact po1.elim
theorem mc_lst (h : PA X es (TL (cg X) E ms)) : PE X (.List es pos) (TC (cg X) E (lstM ms)) := by
  refine PE.weak (pe_lst h) fun σ H Q ⟨w, S, s, po⟩ => ?_
  unfold lstM at po
  refine ⟨w, S, s, Po.two po fun ds w1 S1 H1 st s1 po1 vs r => ?_⟩
  by_cases hz : ds.length ≤ sizeLine
  · rw [if_pos hz] at po1
    refine ⟨by rw [← r.length]; exact hz, fun p hp => ?_⟩
    exact Po.newAt s1 (Po.imp po1 fun x w2 S2 H2 _ _ q p hp => q p (st.th p hp)) hp ⟨vs, upd_same, r⟩
  · rw [if_neg hz] at po1; exact po1.elim
end

section
variable {X : Cx} {E : XK} {pos p : Pos} {e a b : Expr} {m ma : M D} {h : M Hd} {n : Nat}
theorem seqL_of {K : PySem.W.Frag} {H : Hp} {b : Bool} {a : Addr} {vs : List V} (k : VwR H b a vs) : SqL K H a vs ∨ SqT K H a vs := by
  unfold VwR at k
  cases b with
  | true => rw [if_pos rfl] at k; exact .inl (.inl (.inl k))
  | false => rw [if_neg Bool.false_ne_true] at k; exact .inr (.inl (.inl k))
theorem seqL_t {K : PySem.W.Frag} {H : Hp} {a : Addr} {vs : List V} (k : VwR H true a vs) : SqL K H a vs := .inl (.inl k)
theorem seqL_f {K : PySem.W.Frag} {H : Hp} {a : Addr} {vs : List V} (k : VwR H false a vs) : SqT K H a vs := .inl (.inl k)
/-- a built-in of one sequence: what it makes of the items -/
def h1 (h : M Hd) (f : Vw → M D) : M D := bd h fun x => bd (see x) f
theorem mb_h {r : List V → Hp → VK → Prop} {f : Vw → M D} {x : Str} {id : String} (hc : CallR X (.builtin id) r) (hg : Gl X x) (hm : X.mg x = none) (hv : bootBuiltins x = some (.builtin id)) (he : PE X e (TH (cg X) E h))
    (k : ∀ w S σ H b ds a vs Q, Sim (cg X) w S σ H → VwR H b a vs → Reps (cg X) w ds vs → Po (cg X) E (f (b, ds) S) w S σ H (KD (cg X) Q) → r [.ref a] H Q)
    (hn : x ≠ "__name__" := by decide) (hdb : (x == ("__debug__" : Str)) = false := by decide) (h1' : starEach [e] X.env = [(false, eval e X.env)] := by rfl) : PE X (.Call (.Name x p) [e] [] pos) (TM (cg X) E (h1 h f)) := by
  refine PE.weak (pe_callB hc hg hm hv (pa_cons he pa_nil h1') hn hdb h1' rfl) fun σ H Q ⟨w, S, s, po⟩ => ?_
  unfold h1 at po
  refine ⟨w, S, s, Po.two po fun x w1 S1 H1 st s1 po1 v r1 => ?_⟩
  obtain ⟨b, ds, a, vs, e1, rfl, k1, q1, po2⟩ := Po.see s1 r1 po1
  exact k w1 S1 σ H1 b ds a vs Q s1 k1 q1 po2
theorem mb_ty {r : List V → Hp → VK → Prop} {f : Vw → M D} {x : Str} {T : String} (hc : CallR X (.type T) r) (hg : Gl X x) (hm : X.mg x = none) (hv : bootBuiltins x = some (.type T)) (he : PE X e (TH (cg X) E h))
    (k : ∀ w S σ H b ds a vs Q, Sim (cg X) w S σ H → VwR H b a vs → Reps (cg X) w ds vs → Po (cg X) E (f (b, ds) S) w S σ H (KD (cg X) Q) → r [.ref a] H Q)
    (hn : x ≠ "__name__" := by decide) (hdb : (x == ("__debug__" : Str)) = false := by decide) (h1' : starEach [e] X.env = [(false, eval e X.env)] := by rfl) : PE X (.Call (.Name x p) [e] [] pos) (TM (cg X) E (h1 h f)) := by
  refine PE.weak (pe_callTy hc hg hm hv (pa_cons he pa_nil h1') hn hdb h1' rfl) fun σ H Q ⟨w, S, s, po⟩ => ?_
  unfold h1 at po
  refine ⟨w, S, s, Po.two po fun x w1 S1 H1 st s1 po1 v r1 => ?_⟩
  obtain ⟨b, ds, a, vs, e1, rfl, k1, q1, po2⟩ := Po.see s1 r1 po1
  exact k w1 S1 σ H1 b ds a vs Q s1 k1 q1 po2
/-- all ints; all truth values -/
def intsOf : List D → Option (List Int)
  | [] => some []
  | .int i :: r => (intsOf r).map (i :: ·)
  | _ :: _ => none
def blsOf : List D → Option (List Bool)
  | [] => some []
  | .bl i :: r => (blsOf r).map (i :: ·)
  | _ :: _ => none
theorem blsOf_map : ∀ (ns : List Bool), blsOf (ns.map D.bl) = some ns
  | [] => rfl
  | n :: ns => by simp only [List.map_cons, blsOf, blsOf_map ns, Option.map_some]
theorem blsOf_eq : ∀ {ds : List D} {ns : List Bool}, blsOf ds = some ns → ds = ns.map D.bl
  | [], ns, e => by simp only [blsOf] at e; cases e; rfl
  | d :: ds, ns, e => by
    cases d with
    | bl i =>
      simp only [blsOf] at e
      obtain ⟨ms, e1, rfl⟩ := Option.map_eq_some_iff.mp e
      rw [blsOf_eq e1, List.map_cons]
    | _ => simp only [blsOf] at e; cases e
def onInts (f : List Int → M D) : Vw → M D := fun v => if v.1 = true then (match intsOf v.2 with | some ns => f ns | none => nope) else nope
def onBls (f : List Bool → M D) : Vw → M D := fun v => if v.1 = true then (match blsOf v.2 with | some ns => f ns | none => nope) else nope
theorem onBls_po {c : Gm} {w : Wd} {S : Sg} {σ : FSt} {H : Hp} {f : List Bool → M D} {b : Bool} {ds : List D} {a : Addr} {vs : List V} {K : D → Wd → Sg → Hp → Prop} (k : VwR H b a vs) (q : Reps c w ds vs) (po : Po c E (onBls f (b, ds) S) w S σ H K) :
    ∃ ns, SqL c.K H a (ns.map V.bl) ∧ Po c E (f ns S) w S σ H K := by
  unfold onBls at po
  cases b with
  | true =>
    have po : Po c E ((match blsOf ds with | some ns => f ns | none => nope : M D) S) w S σ H K := po
    cases e : blsOf ds with
    | some ns =>
      rw [e] at po
      rw [blsOf_eq e] at q
      rw [q.bls] at k
      exact ⟨ns, seqL_t k, po⟩
    | none => rw [e] at po; exact po.elim
  | false => exact po.elim
def lenF : Vw → M D := fun v => ret (.int v.2.length)
theorem me_len (hg : Gl X "len") (hm : X.mg "len" = none) (he : PE X e (TH (cg X) E h)) (h1' : starEach [e] X.env = [(false, eval e X.env)] := by rfl) : PE X (.Call (.Name "len" p) [e] [] pos) (TM (cg X) E (h1 h lenF)) :=
  mb_h call_len_seq hg hm PySem.boot_len he (fun w S σ H b ds a vs Q s k q po => ⟨a, vs, rfl, seqL_of k, by rw [← q.length]; exact Po.at s po of_int⟩) (by decide) (by decide) h1'
def sumF : Vw → M D := onInts fun ns => ret (.int ns.sum)
def maxL : List Int → Int
  | [] => 0
  | x :: xs => xs.foldl max x
def minL : List Int → Int
  | [] => 0
  | x :: xs => xs.foldl min x
def maxF : Vw → M D := onInts fun ns => if ns = [] then nope else ret (.int (maxL ns))
def minF : Vw → M D := onInts fun ns => if ns = [] then nope else ret (.int (minL ns))
def anyF : Vw → M D := onBls fun bs => ret (.bl (bs.any id))
def allF : Vw → M D := onBls fun bs => ret (.bl (bs.all id))
theorem me_any (hc : X.calm = true) (hg : Gl X "any") (hm : X.mg "any" = none) (he : PE X e (TH (cg X) E h)) (h1' : starEach [e] X.env = [(false, eval e X.env)] := by rfl) : PE X (.Call (.Name "any" p) [e] [] pos) (TM (cg X) E (h1 h anyF)) :=
  mb_h (cr_any hc) hg hm (by decide +kernel) he (fun w S σ H b ds a vs Q s k q po => by
    obtain ⟨ns, hs, po⟩ := onBls_po k q po
    exact ⟨a, ns, rfl, hs, Po.at s po of_bl⟩) (by decide) (by decide) h1'
theorem me_all (hc : X.calm = true) (hg : Gl X "all") (hm : X.mg "all" = none) (he : PE X e (TH (cg X) E h)) (h1' : starEach [e] X.env = [(false, eval e X.env)] := by rfl) : PE X (.Call (.Name "all" p) [e] [] pos) (TM (cg X) E (h1 h allF)) :=
  mb_h (cr_all hc) hg hm (by decide +kernel) he (fun w S σ H b ds a vs Q s k q po => by
    obtain ⟨ns, hs, po⟩ := onBls_po k q po
    exact ⟨a, ns, rfl, hs, Po.at s po of_bl⟩) (by decide) (by decide) h1'
/-! ### built-ins of values -/
def v1 (m : M D) (f : D → M D) : M D := bd m f
theorem mb_v {r : List V → Hp → VK → Prop} {f : D → M D} {x : Str} {id : String} (hc : CallR X (.builtin id) r) (hg : Gl X x) (hm : X.mg x = none) (hv : bootBuiltins x = some (.builtin id)) (he : PE X e (TM (cg X) E m))
    (k : ∀ w S σ H d v Q, Sim (cg X) w S σ H → Rep (cg X) w d v → Po (cg X) E (f d S) w S σ H (KD (cg X) Q) → r [v] H Q)
    (hn : x ≠ "__name__" := by decide) (hdb : (x == ("__debug__" : Str)) = false := by decide) (h1' : starEach [e] X.env = [(false, eval e X.env)] := by rfl) : PE X (.Call (.Name x p) [e] [] pos) (TM (cg X) E (v1 m f)) := by
  refine PE.weak (pe_callB hc hg hm hv (pa_cons he pa_nil h1') hn hdb h1' rfl) fun σ H Q ⟨w, S, s, po⟩ => ?_
  exact ⟨w, S, s, Po.two (k := f) po fun d w1 S1 H1 st s1 po1 v r1 => k w1 S1 σ H1 d v Q s1 r1 po1⟩
theorem mb_vty {r : List V → Hp → VK → Prop} {f : D → M D} {x : Str} {T : String} (hc : CallR X (.type T) r) (hg : Gl X x) (hm : X.mg x = none) (hv : bootBuiltins x = some (.type T)) (he : PE X e (TM (cg X) E m))
    (k : ∀ w S σ H d v Q, Sim (cg X) w S σ H → Rep (cg X) w d v → Po (cg X) E (f d S) w S σ H (KD (cg X) Q) → r [v] H Q)
    (hn : x ≠ "__name__" := by decide) (hdb : (x == ("__debug__" : Str)) = false := by decide) (h1' : starEach [e] X.env = [(false, eval e X.env)] := by rfl) : PE X (.Call (.Name x p) [e] [] pos) (TM (cg X) E (v1 m f)) := by
  refine PE.weak (pe_callTy hc hg hm hv (pa_cons he pa_nil h1') hn hdb h1' rfl) fun σ H Q ⟨w, S, s, po⟩ => ?_
  exact ⟨w, S, s, Po.two (k := f) po fun d w1 S1 H1 st s1 po1 v r1 => k w1 S1 σ H1 d v Q s1 r1 po1⟩
def v2 (a b : M D) (f : D → D → M D) : M D := bd a fun x => bd b fun y => f x y
def absF : D → M D
  | .int i => ret (.int (if i < 0 then -i else i))
  | _ => nope
theorem me_abs (hg : Gl X "abs") (hm : X.mg "abs" = none) (he : PE X e (TM (cg X) E m)) (h1' : starEach [e] X.env = [(false, eval e X.env)] := by rfl) : PE X (.Call (.Name "abs" p) [e] [] pos) (TM (cg X) E (v1 m absF)) :=
  mb_v call_abs hg hm (by decide +kernel) he (fun w S σ H d v Q s r po => by
    cases d with
    | int i => exact ⟨i, by rw [rep_int r], Po.at s po of_int⟩
    | _ => exact po.elim) (by decide) (by decide) h1'
def intF : D → M D
  | .int i => ret (.int i)
  | .bl b => ret (.int (if b = true then 1 else 0))
  | _ => nope
theorem me_intOf (hg : Gl X "int") (hm : X.mg "int" = none) (he : PE X e (TM (cg X) E m)) (h1' : starEach [e] X.env = [(false, eval e X.env)] := by rfl) : PE X (.Call (.Name "int" p) [e] [] pos) (TM (cg X) E (v1 m intF)) :=
  mb_vty call_int1 hg hm (by decide +kernel) he (fun w S σ H d v Q s r po => by
    cases d with
    | int i => exact .inl ⟨i, by rw [rep_int r], Po.at s po of_int⟩
    | bl i => exact .inr ⟨i, by rw [rep_bl r], Po.at s po of_int⟩
    | _ => exact po.elim) (by decide) (by decide) h1'
def max2F : D → D → M D := iop fun i j => ret (.int (if j > i then j else i))
def min2F : D → D → M D := iop fun i j => ret (.int (if j < i then j else i))
/-! ### list(..), tuple(..), sorted(..) -/
def h1C (h : M Hd) (f : Vw → M Cell) : M Cell := bd h fun x => bd (see x) f
def listF : Vw → M Cell := fun v => ret (.lst v.2)
theorem mc_list (hg : Gl X "list") (hm : X.mg "list" = none) (he : PE X e (TH (cg X) E h)) (h1' : starEach [e] X.env = [(false, eval e X.env)] := by rfl) : PE X (.Call (.Name "list" p) [e] [] pos) (TC (cg X) E (h1C h listF)) := by
  refine PE.weak (pe_callTy call_list_of hg hm (by decide +kernel) (pa_cons he pa_nil h1') (by decide) (by decide) h1' rfl) fun σ H Q ⟨w, S, s, po⟩ => ?_
  unfold h1C at po
  refine ⟨w, S, s, Po.two po fun x w1 S1 H1 st s1 po1 v r1 => ?_⟩
  obtain ⟨b, ds, a, vs, e1, rfl, k1, q1, po2⟩ := Po.see s1 r1 po1
  refine ⟨a, vs, rfl, seqL_of k1, fun p hp => ?_⟩
  exact Po.newAt s1 (Po.imp po2 fun x w2 S2 H2 _ _ q p hp => q p (st.th p hp)) hp ⟨vs, upd_same, q1⟩
/-- of the script itself -/
def scrF : D → M Cell
  | .scr ns => ret (.lst (ns.map D.int))
  | _ => nope
theorem mc_scr (hg : Gl X "list") (hm : X.mg "list" = none) (he : PE X e (TM (cg X) E m)) (h1' : starEach [e] X.env = [(false, eval e X.env)] := by rfl) : PE X (.Call (.Name "list" p) [e] [] pos) (TC (cg X) E (bd m scrF)) := by
  refine PE.weak (pe_callTy call_list_of hg hm (by decide +kernel) (pa_cons he pa_nil h1') (by decide) (by decide) h1' rfl) fun σ H Q ⟨w, S, s, po⟩ => ?_
  refine ⟨w, S, s, Po.two (k := scrF) po fun d w1 S1 H1 st s1 po1 v r1 => ?_⟩
  cases d with
  | scr ns =>
    simp only [Rep] at r1
    obtain ⟨a, rfl, hs⟩ := r1
    refine ⟨a, _, rfl, .inl (sqL_le s1.fz hs), fun p hp => ?_⟩
    exact Po.newAt s1 (Po.imp po1 fun x w2 S2 H2 _ _ q p hp => q p (st.th p hp)) hp ⟨_, upd_same, Reps.ofInts ns⟩
  | _ => exact po1.elim
def tupleF : Vw → M D := fun v => ret (.tup v.2)
theorem me_tuple (hg : Gl X "tuple") (hm : X.mg "tuple" = none) (he : PE X e (TH (cg X) E h)) (h1' : starEach [e] X.env = [(false, eval e X.env)] := by rfl) : PE X (.Call (.Name "tuple" p) [e] [] pos) (TM (cg X) E (h1 h (fun v => if v.1 = true then tupleF v else nope))) :=
  mb_ty call_tuple_of hg hm (by decide +kernel) he (fun w S σ H b ds a vs Q s k q po => by
    cases b with
    | true => exact ⟨a, vs, rfl, .inl ⟨seqL_t k, fun l hl => Po.tupAt s po q hl⟩⟩
    | false => exact po.elim) (by decide) (by decide) h1'
/-- sorted ints -/
def sortI (ns : List Int) : List Int := ns.mergeSort (fun a b => decide (a ≤ b))
def sortF : Vw → M Cell := fun v => if v.1 = true then (match intsOf v.2 with | some ns => ret (.lst ((sortI ns).map D.int)) | none => nope) else nope
/-! ### in -/
def inP (neg : Bool) (d : D) (v : Vw) : M D := if v.1 = true then (match pyD d, pyDs v.2 with
  | some p, some ps => if (SeqAt.shaped p && SeqAt.shaped (.list ps)) = true then ret (.bl (if neg then !ps.any (fun z => PyData.eqv z p) else ps.any fun z => PyData.eqv z p)) else nope
  | _, _ => nope) else nope
def inM (neg : Bool) (m : M D) (h : M Hd) : M D := bd m fun d => bd h fun y => bd (see y) fun v => inP neg d v
theorem tinM {c : Gm} {neg : Bool} : ∀ σ H Q, TM c E (inM neg m h) σ H Q → tOp (if neg then rNotInD c.K else rInD c.K) (TM c E m) (TH c E h) σ H Q := by
  rintro σ H Q ⟨w, S, s, po⟩
  unfold inM at po
  refine ⟨w, S, s, Po.two po fun d w1 S1 H1 st1 s1 po1 v1 r1 => ?_⟩
  refine ⟨w1, S1, s1, Po.two po1 fun y w2 S2 H2 st2 s2 po2 v2 r2 => ?_⟩
  obtain ⟨b2, d2, a2, us2, e2, rfl, k2, q2, po4⟩ := Po.see s2 r2 po2
  unfold inP at po4
  cases b2 with
  | true =>
    have po4 : Po c E ((match pyD d, pyDs d2 with | some p, some ps => if (SeqAt.shaped p && SeqAt.shaped (.list ps)) = true then ret (.bl (if neg then !ps.any (fun z => PyData.eqv z p) else ps.any fun z => PyData.eqv z p)) else nope | _, _ => nope : M D) S2) w2 S2 σ H2 (KD c Q) := po4
    cases f1 : pyD d with
    | none => rw [f1] at po4; exact po4.elim
    | some p =>
      cases f2 : pyDs d2 with
      | none => rw [f1, f2] at po4; exact po4.elim
      | some ps =>
        rw [f1, f2] at po4
        have po4 : Po c E ((if (SeqAt.shaped p && SeqAt.shaped (.list ps)) = true then ret (.bl (if neg then !ps.any (fun z => PyData.eqv z p) else ps.any fun z => PyData.eqv z p)) else nope : M D) S2) w2 S2 σ H2 (KD c Q) := po4
        by_cases z : (SeqAt.shaped p && SeqAt.shaped (.list ps)) = true
        · rw [if_pos z] at po4
          obtain ⟨z1, z2⟩ := Bool.and_eq_true_iff.mp z
          have D1 := dp_of s2.fz d v1 p (Rep.mono st2.le _ _ r1) f1
          have D2 : Dp c.K H2 (.ref a2) (.list ps) := .lst (.inl (.inl k2)) (dps_of s2.fz _ _ _ q2 f2)
          have q := Po.at s2 po4 of_bl
          cases neg with
          | true => exact ⟨p, ps, D1, D2, z1, z2, q⟩
          | false => exact ⟨p, ps, D1, D2, z1, z2, q⟩
        · rw [if_neg z] at po4; exact po4.elim
  | false => exact po4.elim
theorem me_in (hr : Room n X.A) (ha : PE X a (TM (cg X) E m)) (hb : PE X b (TH (cg X) E h)) (hm : behindInMarks .In b = false := by rfl) : PE X (.Compare a [.In] [b] pos) (TM (cg X) E (inM false m h)) := PE.weak (pe_cmpR (op_inD (hu65 hr)) ha hb hm) tinM
/-! ### places, slices -/
def ixP (v : Vw) : D → M D
  | .int i => match atI v.2 i with | some d => ret d | none => nope
  | _ => nope
def ixM (h : M Hd) (i : M D) : M D := bd h fun x => bd i fun d => bd (see x) fun v => ixP v d
theorem atI_reps {c : Gm} {w : Wd} {ds : List D} {vs : List V} {i : Int} {d : D} (q : Reps c w ds vs) (e : atI ds i = some d) : ∃ v, atI vs i = some v ∧ Rep c w d v := by
  unfold atI at e ⊢
  rw [← q.length]
  cases k : ixN ds.length i with
  | none => rw [k] at e; cases e
  | some j =>
    rw [k] at e
    exact q.get e
theorem me_ix {mi : M D} (ho : PE X a (TH (cg X) E h)) (hi : PE X b (TM (cg X) E mi)) (hs : PlainIx b := by exact fun _ _ => rfl) : PE X (.Subscript a b pos) (TM (cg X) E (ixM h mi)) := by
  refine PE.weak (pe_ix ix_seq ho hi hs) fun σ H Q ⟨w, S, s, po⟩ => ?_
  unfold ixM at po
  refine ⟨w, S, s, Po.two po fun x w1 S1 H1 st1 s1 po1 v1 r1 => ?_⟩
  refine ⟨w1, S1, s1, Po.two po1 fun d w2 S2 H2 st2 s2 po2 v2 r2 => ?_⟩
  obtain ⟨b1, d1, a1, us1, e1, rfl, k1, q1, po3⟩ := Po.see s2 (r1.mono st2.le) po2
  unfold ixP at po3
  cases d with
  | int i =>
    have po3 : Po (cg X) E ((match atI d1 i with | some d => ret d | none => nope : M D) S2) w2 S2 σ H2 (KD (cg X) Q) := po3
    cases ey : atI d1 i with
    | some y =>
      rw [ey] at po3
      obtain ⟨v, h1, h2⟩ := atI_reps q1 ey
      have q := Po.at s2 po3 h2
      cases b1 with
      | true => exact .inl ⟨a1, us1, i, v, rfl, rep_int r2, seqL_t k1, h1, q⟩
      | false => exact .inr (.inl ⟨a1, us1, i, v, rfl, rep_int r2, seqL_f k1, h1, q⟩)
    | none => rw [ey] at po3; exact po3.elim
  | _ => exact po3.elim
def TO (c : Gm) (E : XK) (m : M (Option Int)) : L2.TO := fun σ H Q => ∃ w S, Sim c w S σ H ∧ Po c E (m S) w S σ H fun o _ _ H' => Q o H'
def oint : D → M (Option Int)
  | .int i => ret (some i)
  | _ => nope
theorem mo_none : PO X none (TO (cg X) E (ret none)) := ⟨fun pins s σ H Q I ⟨w, S, sm, po⟩ => po_none.run pins s σ H Q I (po w H (.refl ..) sm)⟩
theorem mo_some (he : PE X e (TM (cg X) E m)) : PO X (some e) (TO (cg X) E (bd m oint)) := ⟨fun pins s σ H Q I ⟨w, S, sm, po⟩ => by
  refine (po_some he).run pins s σ H Q I ⟨w, S, sm, Po.two (k := oint) po fun d w1 S1 H1 st1 s1 po1 v1 r1 => ?_⟩
  cases d with
  | int i => exact ⟨i, rep_int r1, po1 w1 H1 (.refl ..) s1⟩
  | _ => exact po1.elim⟩
def cutD (xs : List D) (lo hi : Option Int) : List D := (xs.drop (HT.sIx xs.length 0 lo)).take (HT.sIx xs.length xs.length hi - HT.sIx xs.length 0 lo)
theorem cut_reps {c : Gm} {w : Wd} {ds : List D} {vs : List V} (q : Reps c w ds vs) (lo hi : Option Int) : Reps c w (cutD ds lo hi) (cutV vs lo hi) := by
  unfold cutD cutV
  rw [← q.length]
  exact (q.drop _).take _
def slM (h : M Hd) (lo hi : M (Option Int)) : M D := bd h fun x => bd lo fun l => bd hi fun u => bd (see x) fun v => if v.1 = true then ret (.lst (cutD v.2 l u)) else ret (.tup (cutD v.2 l u))
def slC (h : M Hd) (lo hi : M (Option Int)) : M Cell := bd h fun x => bd lo fun l => bd hi fun u => bd (see x) fun v => if v.1 = true then ret (.lst (cutD v.2 l u)) else nope
theorem me_slice {lo hi : Option Expr} {p2 : Pos} {ml mu : M (Option Int)} (ho : PE X a (TH (cg X) E h)) (hl : PO X lo (TO (cg X) E ml)) (hu : PO X hi (TO (cg X) E mu)) : PE X (.Subscript a (.Slice lo hi none p2) pos) (TM (cg X) E (slM h ml mu)) := by
  refine PE.weak (pe_slice (sl_list.or sl_tupA) ho hl hu) fun σ H Q ⟨w, S, s, po⟩ => ?_
  unfold slM at po
  refine ⟨w, S, s, Po.two po fun x w1 S1 H1 st1 s1 po1 v1 r1 => ?_⟩
  refine ⟨w1, S1, s1, Po.two po1 fun l w2 S2 H2 st2 s2 po2 => ?_⟩
  refine ⟨w2, S2, s2, Po.two po2 fun u w3 S3 H3 st3 s3 po3 => ?_⟩
  have hx := r1.mono (st2.le.trans st3.le)
  obtain ⟨b1, d1, a1, us1, e1, rfl, k1, q1, po4⟩ := Po.see s3 hx po3
  cases b1 with
  | true =>
    simp only [if_true] at po4
    exact .inl ⟨a1, us1, rfl, seqL_t k1, fun p hp => Po.lstAt s3 po4 (cut_reps q1 _ _) hp⟩
  | false =>
    have po4 : Po (cg X) E (.ok (.tup (cutD d1 l u)) S3) w3 S3 σ H3 (KD (cg X) Q) := po4
    refine .inr ⟨a1, us1, rfl, seqL_f k1, fun ⟨z1, z2⟩ => ?_, fun _ p hp => Po.tupAt s3 po4 (cut_reps q1 _ _) hp⟩
    have e2 : cutD d1 l u = d1 := by
      unfold cutD
      rw [q1.length, z1, z2, List.drop_zero, Nat.sub_zero, ← q1.length, List.take_length]
    rw [e2] at po4
    refine Po.at s3 po4 ?_
    cases x with
    | d y =>
      have hx : Rep (cg X) w3 y (.ref a1) := hx
      cases y with
      | lst xs => simp only [vwH, vwD] at e1; cases e1
      | tup xs => simp only [vwH, vwD] at e1; cases e1; exact hx
      | box r =>
        simp only [vwH, vwD] at e1
        split at e1 <;> cases e1
      | _ => simp only [vwH, vwD] at e1; cases e1
    | sl i =>
      simp only [vwH] at e1
      split at e1
      · rename_i y hy
        obtain ⟨v', g1, g2⟩ := s3.val i y hy
        have hx : slotV σ i (.ref a1) := hx
        have z : some (some v') = some (some (V.ref a1)) := g1.symm.trans hx
        cases z
        cases y with
        | tup xs => simp only [vwD] at e1; cases e1; exact g2
        | box r =>
          simp only [vwD] at e1
          split at e1 <;> cases e1
        | lst _ => simp only [vwD] at e1; cases e1
        | _ => simp only [vwD] at e1; cases e1
      · cases e1
      · cases e1
def revC (h : M Hd) : M Cell := h1C h fun v => if v.1 = true then ret (.lst v.2.reverse) else nope
/-! ### joining, repeating -/
def catC (ha hb : M Hd) : M Cell := bd ha fun x => bd hb fun y => bd (see x) fun u => bd (see y) fun v => if u.1 = true ∧ v.1 = true ∧ u.2.length + v.2.length ≤ sizeLine then ret (.lst (u.2 ++ v.2)) else nope
theorem mc_cat {hb : M Hd} (h1 : PE X a (TH (cg X) E h)) (h2 : PE X b (TH (cg X) E hb)) : PE X (.BinOp a .Add b pos) (TC (cg X) E (catC h hb)) := by
  refine PE.weak (pe_op op_cat h1 h2) fun σ H Q ⟨w, S, s, po⟩ => ?_
  unfold catC at po
  refine ⟨w, S, s, Po.two po fun x w1 S1 H1 st1 s1 po1 v1 r1 => ?_⟩
  refine ⟨w1, S1, s1, Po.two po1 fun y w2 S2 H2 st2 s2 po2 v2 r2 => ?_⟩
  obtain ⟨b1, d1, a1, us1, e1, rfl, k1, q1, po3⟩ := Po.see s2 (r1.mono st2.le) po2
  obtain ⟨b2, d2, a2, us2, e2, rfl, k2, q2, po4⟩ := Po.see s2 r2 po3
  by_cases z : b1 = true ∧ b2 = true ∧ d1.length + d2.length ≤ sizeLine
  · obtain ⟨z1, z2, z3⟩ := z
    subst z1 z2
    rw [if_pos ⟨rfl, rfl, z3⟩] at po4
    refine ⟨a1, a2, us1, us2, rfl, rfl, k1, k2, by rw [← q1.length, ← q2.length]; exact z3, fun p hp => ?_⟩
    exact Po.newAt s2 (Po.imp po4 fun x w5 S5 H5 _ _ q p hp => q p (st1.th p (st2.th p hp))) hp ⟨_, upd_same, q1.append q2⟩
  · rw [if_neg z] at po4; exact po4.elim
def repC (h : M Hd) (m : M D) : M Cell := bd h fun x => bd m fun d => bd (see x) fun u => match d with
  | .int k => if u.1 = true ∧ -(2 ^ 63) ≤ k ∧ k < 2 ^ 63 ∧ u.2.length * k.toNat ≤ sizeLine then ret (.lst (List.replicate k.toNat u.2).flatten) else nope
  | _ => nope
end
end Mm
end

section
/-! MmE: statements, targets, loops, comprehensions. -/
namespace Mm
open PySem L2
variable [TabCtx]

inductive Fl where
  | nx | rt (d : D) | bk | ct
def FlP (c : Gm) (Dn : Ends) (w' : Wd) (σ' : FSt) (H' : Hp) : Fl → Prop
  | .nx => Dn.nx σ' H'
  | .rt d => ∀ v, Rep c w' d v → Dn.rt v H'
  | .bk => Dn.bk σ' H'
  | .ct => Dn.ct σ' H'
def PoS (c : Gm) (E : XK) (r : R Fl) (w : Wd) (S : Sg) (σ : FSt) (H : Hp) (Dn : Ends) : Prop := match r with
  | .ok f S' => ∀ w' σ' H', Step w S σ H w' S' σ' H' → Sim c w' S' σ' H' → FlP c Dn w' σ' H' f
  | .exc C fs S' => ExcP c E C fs S' w S σ H
  | .stuck => False
def TSm (c : Gm) (E : XK) (m : M Fl) : TS := fun Dn σ H => ∃ w S, Sim c w S σ H ∧ PoS c E (m S) w S σ H Dn
section
variable {c : Gm} {E : XK} {α : Type} {w w1 : Wd} {S S1 : Sg} {σ σ1 : FSt} {H H1 : Hp} {Dn Dn' : Ends}
theorem PoS.rebase {r : R Fl} (st : Step w S σ H w1 S1 σ1 H1) (h : PoS c E r w S σ H Dn) : PoS c E r w1 S1 σ1 H1 Dn := by
  cases r with
  | ok a S' => exact fun w' σ' H' s1 sm => h w' σ' H' (st.trans s1) sm
  | exc C fs S' => exact fun w' σ' H' Ca dx ys s1 sm => h w' σ' H' Ca dx ys (st.trans s1) sm
  | stuck => exact h
/-- a run of an expression's part ahead of a statement's -/
theorem PoS.two {m : R α} {k : α → Sg → R Fl} {K' : α → Wd → Sg → Hp → Prop} (h : PoS c E (m.bind k) w S σ H Dn)
    (q : ∀ a w1 S1 H1, Step w S σ H w1 S1 σ H1 → Sim c w1 S1 σ H1 → PoS c E (k a S1) w1 S1 σ H1 Dn → K' a w1 S1 H1) : Po c E m w S σ H K' := by
  cases m with
  | ok a S' => exact fun w' H' s1 sm => q a w' S' H' s1 sm (PoS.rebase s1 h)
  | exc C fs S' => exact h
  | stuck => exact h
/-- a statement ahead of another one -/
theorem PoS.seq {m : R Fl} {k : Fl → Sg → R Fl} (h : PoS c E (m.bind k) w S σ H Dn)
    (q : ∀ f w1 S1 σ1 H1, Step w S σ H w1 S1 σ1 H1 → Sim c w1 S1 σ1 H1 → PoS c E (k f S1) w1 S1 σ1 H1 Dn → FlP c Dn' w1 σ1 H1 f) : PoS c E m w S σ H Dn' := by
  cases m with
  | ok a S' => exact fun w' σ' H' s1 sm => q a w' S' σ' H' s1 sm (PoS.rebase s1 h)
  | exc C fs S' => exact h
  | stuck => exact h
theorem PoS.here {f : Fl} (s : Sim c w S σ H) (h : PoS c E (.ok f S) w S σ H Dn) : FlP c Dn w σ H f := h w σ H (.refl ..) s
end

/-! ### blocks and small statements -/
def seqM (a b : M Fl) : M Fl := bd a fun f => match f with | .nx => b | f => ret f
def retM (m : M D) : M Fl := bd m fun d => ret (.rt d)
def exprM (m : M D) : M Fl := bd m fun _ => ret .nx
def setM (i : Nat) (m : M D) : M Fl := bd m fun d S => .ok .nx (S.st i (.val d))
def ownM (i : Nat) (m : M Cell) : M Fl := bd m fun x S => .ok .nx (S.st i (.own x))
section
variable {X : Cx} {E : XK} {pos : Pos} {e : Expr} {m : M D} {a b : M Fl} {st : Stmt} {rest : List Stmt}
theorem mss_nil : PSs X [] (TSm (cg X) E (ret .nx)) := PSs.weak pss_nil fun Dn σ H ⟨w, S, s, po⟩ => PoS.here s po
theorem mss_cons (h1 : PS X st (TSm (cg X) E a)) (h2 : PSs X rest (TSm (cg X) E b)) : PSs X (st :: rest) (TSm (cg X) E (seqM a b)) := by
  refine PSs.weak (pss_cons h1 h2) fun Dn σ H ⟨w, S, s, po⟩ => ⟨w, S, s, ?_⟩
  unfold seqM at po
  refine PoS.seq po fun f w1 S1 σ1 H1 st1 s1 po1 => ?_
  cases f with
  | nx => exact ⟨w1, S1, s1, po1⟩
  | rt d => exact PoS.here (E := E) (f := .rt d) s1 po1
  | bk => exact PoS.here (E := E) (f := .bk) s1 po1
  | ct => exact PoS.here (E := E) (f := .ct) s1 po1
theorem mss_one (h1 : PS X st (TSm (cg X) E a)) : PSs X [st] (TSm (cg X) E a) := pss_one h1
theorem ms_never : PS X st (TSm (cg X) E nope) := PS.weak ps_never fun Dn σ H ⟨w, S, s, po⟩ => po
theorem ms_ret (h : PE X e (TM (cg X) E m)) : PS X (.Return (some e) pos) (TSm (cg X) E (retM m)) := by
  refine PS.weak (ps_ret h) fun Dn σ H ⟨w, S, s, po⟩ => ⟨w, S, s, ?_⟩
  exact PoS.two (k := fun d => ret (.rt d)) po fun d w1 S1 H1 st1 s1 po1 v r => PoS.here s1 po1 v r
theorem ms_expr (h : PE X e (TM (cg X) E m)) (hs : swapsWith e none pos.line X.env = pure false := by rfl) : PS X (.Expr e pos) (TSm (cg X) E (exprM m)) := by
  refine PS.weak (ps_expr h hs) fun Dn σ H ⟨w, S, s, po⟩ => ⟨w, S, s, ?_⟩
  exact PoS.two (k := fun _ => ret .nx) po fun d w1 S1 H1 st1 s1 po1 v r => PoS.here s1 po1
theorem ms_if {t : Expr} {mt : M Bool} {xs ys : List Stmt} (ht : PT X t (TB (cg X) E mt)) (ha : PSs X xs (TSm (cg X) E a)) (hb : PSs X ys (TSm (cg X) E b)) : PS X (.If t xs ys pos) (TSm (cg X) E (ifM mt a b)) := by
  refine PS.weak (ps_if ht ha hb) fun Dn σ H ⟨w, S, s, po⟩ => ⟨w, S, s, ?_⟩
  refine PoS.two (k := fun k => if k = true then a else b) po fun k w1 S1 H1 st1 s1 po1 => ?_
  cases k with
  | true => exact ⟨w1, S1, s1, po1⟩
  | false => exact ⟨w1, S1, s1, po1⟩
theorem ms_set {i : Nat} {x : Str} {pos' : Pos} (hN : X.N.Nodup) (hi : X.N[i]? = some x) (hx : Loc X.env.scope x) (h : PE X e (TM (cg X) E m)) (hs : swapsWith e (some (.Name x pos')) pos.line X.env = pure false := by rfl)
    (hf : X.fn x = true ∨ X.env.scope.names.lookup x = some .local := by first | exact .inl rfl | exact .inr rfl | assumption) : PS X (.Assign [.Name x pos'] e pos) (TSm (cg X) E (setM i m)) := by
  refine PS.weak (ps_set hN hi hx h hs hf) fun Dn σ H ⟨w, S, s, po⟩ => ⟨w, S, s, ?_⟩
  exact PoS.two (k := fun d S => .ok .nx (S.st i (.val d))) po fun d w1 S1 H1 st1 s1 po1 v r => po1 w1 (σ.set i (some v)) H1 (Step.setVal ..) (s1.setVal r)
/-! ### while -/
def whN (t : M Bool) (b : M Fl) : Nat → M Fl
  | 0 => nope
  | n + 1 => bd t fun k => if k = true then bd b fun f => match f with
      | .nx => whN t b n
      | .ct => whN t b n
      | .bk => ret .nx
      | .rt d => ret (.rt d)
    else ret .nx
open Classical in
noncomputable def whM (t : M Bool) (b : M Fl) : M Fl := fun S => if h : ∃ n, whN t b n S ≠ .stuck then whN t b (choose h) S else .stuck
theorem whN_more (t : M Bool) (b : M Fl) : ∀ (n : Nat) (S : Sg), whN t b n S ≠ .stuck → whN t b (n + 1) S = whN t b n S
  | 0, S, h => absurd rfl h
  | n + 1, S, h => by
    have e1 : ∀ k, whN t b (k + 1) S = (t S).bind fun q => if q = true then bd b fun f => match f with
      | .nx => whN t b k
      | .ct => whN t b k
      | .bk => ret .nx
      | .rt d => ret (.rt d)
    else ret .nx := fun _ => rfl
    rw [e1 n] at h
    rw [e1 n, e1 (n + 1)]
    cases et : t S with
    | ok q S1 =>
      rw [et] at h
      cases q with
      | false => rfl
      | true =>
        have h' : (b S1).bind (fun f => match f with
          | .nx => whN t b n
          | .ct => whN t b n
          | .bk => ret .nx
          | .rt d => ret (.rt d)) ≠ .stuck := h
        show (b S1).bind (fun f => match f with
          | .nx => whN t b (n + 1)
          | .ct => whN t b (n + 1)
          | .bk => ret .nx
          | .rt d => ret (.rt d)) = (b S1).bind (fun f => match f with
          | .nx => whN t b n
          | .ct => whN t b n
          | .bk => ret .nx
          | .rt d => ret (.rt d))
        cases eb : b S1 with
        | ok f S2 =>
          rw [eb] at h'
          cases f with
          | nx => exact whN_more t b n S2 h'
          | ct => exact whN_more t b n S2 h'
          | bk => rfl
          | rt d => rfl
        | exc C fs S2 => rfl
        | stuck => rfl
    | exc C fs S1 => rfl
    | stuck => rfl
theorem whN_le (t : M Bool) (b : M Fl) {n k : Nat} {S : Sg} (h : whN t b n S ≠ .stuck) (l : n ≤ k) : whN t b k S = whN t b n S := by
  induction l with
  | refl => rfl
  | @step m l ih => rw [whN_more t b m S (by rw [ih]; exact h), ih]
theorem whM_of {t : M Bool} {b : M Fl} {n : Nat} {S : Sg} (h : whN t b n S ≠ .stuck) : whM t b S = whN t b n S := by
  have hx : ∃ n, whN t b n S ≠ .stuck := ⟨n, h⟩
  unfold whM
  rw [dif_pos hx]
  have hc := Classical.choose_spec hx
  rcases Nat.le_total n (Classical.choose hx) with l | l
  · exact whN_le t b h l
  · exact (whN_le t b hc l).symm
theorem whM_step {t : M Bool} {b : M Fl} {S : Sg} : whM t b S = (t S).bind fun q => if q = true then bd b fun f => match f with
      | .nx => whM t b
      | .ct => whM t b
      | .bk => ret .nx
      | .rt d => ret (.rt d)
    else ret .nx := by
  have e1 : ∀ k, whN t b (k + 1) S = (t S).bind fun q => if q = true then bd b fun f => match f with
      | .nx => whN t b k
      | .ct => whN t b k
      | .bk => ret .nx
      | .rt d => ret (.rt d)
    else ret .nx := fun _ => rfl
  by_cases hx : ∃ n, whN t b n S ≠ .stuck
  · obtain ⟨n, hn⟩ := hx
    cases n with
    | zero => exact absurd rfl hn
    | succ n =>
      rw [whM_of hn, e1 n]
      rw [e1 n] at hn
      cases et : t S with
      | ok q S1 =>
        rw [et] at hn
        cases q with
        | false => rfl
        | true =>
          have h' : (b S1).bind (fun f => match f with
            | .nx => whN t b n
            | .ct => whN t b n
            | .bk => ret .nx
            | .rt d => ret (.rt d)) ≠ .stuck := hn
          show (b S1).bind (fun f => match f with
            | .nx => whN t b n
            | .ct => whN t b n
            | .bk => ret .nx
            | .rt d => ret (.rt d)) = (b S1).bind (fun f => match f with
            | .nx => whM t b
            | .ct => whM t b
            | .bk => ret .nx
            | .rt d => ret (.rt d))
          cases eb : b S1 with
          | ok f S2 =>
            rw [eb] at h'
            cases f with
            | nx => exact (whM_of h').symm
            | ct => exact (whM_of h').symm
            | bk => rfl
            | rt d => rfl
          | exc C fs S2 => rfl
          | stuck => rfl
      | exc C fs S1 => rfl
      | stuck => rfl
  · have hall : ∀ n, whN t b n S = .stuck := fun n => Classical.byContradiction fun h => hx ⟨n, h⟩
    have hM : whM t b S = .stuck := by unfold whM; rw [dif_neg hx]
    rw [hM]
    cases et : t S with
    | ok q S1 =>
      cases q with
      | false =>
        have z := hall 1
        rw [e1 0, et] at z
        cases z
      | true =>
        have z : ∀ k, (b S1).bind (fun f => match f with
            | .nx => whN t b k
            | .ct => whN t b k
            | .bk => ret .nx
            | .rt d => ret (.rt d)) = .stuck := fun k => by
          have z := hall (k + 1)
          rw [e1 k, et] at z
          exact z
        show R.stuck = (b S1).bind (fun f => match f with
            | .nx => whM t b
            | .ct => whM t b
            | .bk => ret .nx
            | .rt d => ret (.rt d))
        cases eb : b S1 with
        | ok f S2 =>
          have zz : ∀ k, whN t b k S2 = .stuck → True := fun _ _ => trivial
          have no : (∀ k, whN t b k S2 = .stuck) → whM t b S2 = .stuck := fun h => by
            unfold whM
            rw [dif_neg fun ⟨n, hn⟩ => hn (h n)]
          cases f with
          | nx => exact (no fun k => by have y := z k; rw [eb] at y; exact y).symm
          | ct => exact (no fun k => by have y := z k; rw [eb] at y; exact y).symm
          | bk => have y := z 0; rw [eb] at y; cases y
          | rt d => have y := z 0; rw [eb] at y; cases y
        | exc C fs S2 => have y := z 0; rw [eb] at y; cases y
        | stuck => rfl
    | exc C fs S1 =>
      have z := hall 1
      rw [e1 0, et] at z
      cases z
    | stuck => rfl
theorem ms_while {t : Expr} {mt : M Bool} {body : List Stmt} (hp : PassesOwn (model X.prog X.w) X.A X.env X.xe) (ht : PT X t (TB (cg X) E mt)) (hb : PSs X body (TSm (cg X) E b)) : PS X (.While t body [] pos) (TSm (cg X) E (whM mt b)) := by
  refine PS.weak (ps_while hp ht hb) fun Dn σ H ⟨w, S, s, po⟩ => ?_
  have hx : ∃ n, whN mt b n S ≠ .stuck := by
    refine Classical.byContradiction fun hx => ?_
    unfold whM at po
    rw [dif_neg hx] at po
    exact po
  obtain ⟨n, hn⟩ := hx
  rw [whM_of hn] at po
  refine ⟨fun m σ1 H1 => ∃ w1 S1, Sim (cg X) w1 S1 σ1 H1 ∧ PoS (cg X) E (whN mt b m S1) w1 S1 σ1 H1 Dn, ⟨n, w, S, s, po⟩, ?_⟩
  rintro m σ1 H1 ⟨w1, S1, s1, po1⟩
  cases m with
  | zero => exact po1.elim
  | succ m =>
    refine ⟨w1, S1, s1, ?_⟩
    refine PoS.two (m := mt S1) (k := fun k => if k = true then bd b fun f => match f with
      | .nx => whN mt b m
      | .ct => whN mt b m
      | .bk => ret .nx
      | .rt d => ret (.rt d)
    else ret .nx) po1 fun k w2 S2 H2 st2 s2 po2 => ?_
    cases k with
    | false => exact PoS.here (E := E) (f := .nx) s2 po2
    | true =>
      rw [if_pos rfl]
      have po2 : PoS (cg X) E ((b S2).bind fun f => match f with
        | .nx => whN mt b m
        | .ct => whN mt b m
        | .bk => ret .nx
        | .rt d => ret (.rt d)) w2 S2 σ1 H2 Dn := po2
      refine ⟨fun σ3 H3 => ∃ m', m' < m + 1 ∧ ∃ w3 S3, Sim (cg X) w3 S3 σ3 H3 ∧ PoS (cg X) E (whN mt b m' S3) w3 S3 σ3 H3 Dn, fun σ' H' h => h, w2, S2, s2, ?_⟩
      refine PoS.seq po2 fun f w3 S3 σ3 H3 st3 s3 po3 => ?_
      cases f with
      | nx => exact ⟨m, Nat.lt_succ_self m, w3, S3, s3, po3⟩
      | ct => exact ⟨m, Nat.lt_succ_self m, w3, S3, s3, po3⟩
      | bk => exact PoS.here (E := E) (f := .nx) s3 po3
      | rt d => exact PoS.here (E := E) (f := .rt d) s3 po3
end

/-! ### targets: names, tuples of them -/
inductive Tg where
  | nm (i : Nat) | tp (ts : List Tg)
mutual
def asg : Tg → D → Sg → Option Sg
  | .nm i, d, S => some (S.st i (.val d))
  | .tp ts, d, S => match vwD S d with
    | some (_, ds) => asgs ts ds S
    | none => none
def asgs : List Tg → List D → Sg → Option Sg
  | [], [], S => some S
  | t :: ts, d :: ds, S => match asg t d S with
    | some S1 => asgs ts ds S1
    | none => none
  | [], _ :: _, _ => none
  | _ :: _, [], _ => none
end
mutual
def Tg.ix : Tg → List Nat
  | .nm i => [i]
  | .tp ts => Tg.ixs ts
def Tg.ixs : List Tg → List Nat
  | [] => []
  | t :: ts => t.ix ++ Tg.ixs ts
end
structure Set1 (c : Gm) (ix : List Nat) (w : Wd) (S : Sg) (σ : FSt) (H : Hp) (S' : Sg) (σ' : FSt) : Prop where
  sim : Sim c w S' σ' H
  st : Step w S σ H w S' σ' H
  out : ∀ i, i ∉ ix → σ'[i]? = σ[i]?
  len : σ'.length = σ.length
def gT (c : Gm) (T : Tg) : TG := fun v σ H Q => ∃ w S d S', Sim c w S σ H ∧ Rep c w d v ∧ asg T d S = some S' ∧ ∀ σ', Set1 c T.ix w S σ H S' σ' → Q σ' H
def gTs (c : Gm) (Ts : List Tg) : TGs := fun vs σ H Q => ∃ w S ds S', Sim c w S σ H ∧ Reps c w ds vs ∧ asgs Ts ds S = some S' ∧ ∀ σ', Set1 c (Tg.ixs Ts) w S σ H S' σ' → Q σ' H
theorem PG.weak {X : Cx} {e : Expr} {t t' : TG} (h : PG X e t) (k : ∀ v σ H Q, t' v σ H Q → t v σ H Q) : PG X e t' := ⟨fun pins s σ H v u Q I r q => h.run pins s σ H v u Q I r (k v σ H Q q)⟩
theorem PGs.weak {X : Cx} {e : List Expr} {t t' : TGs} (h : PGs X e t) (k : ∀ v σ H Q, t' v σ H Q → t v σ H Q) : PGs X e t' := ⟨fun pins s σ H v u Q I r q => h.run pins s σ H v u Q I r (k v σ H Q q)⟩
theorem PG.or {X : Cx} {e : Expr} {t t' : TG} (h : PG X e t) (h' : PG X e t') : PG X e (fun v σ H Q => t v σ H Q ∨ t' v σ H Q) := ⟨fun pins s σ H v u Q I r q => q.elim (h.run pins s σ H v u Q I r) (h'.run pins s σ H v u Q I r)⟩
section
variable {X : Cx} {pos : Pos}
theorem mg_nm (i : Nat) {x : Str} (hN : X.N.Nodup) (hi : X.N[i]? = some x := by rfl) (hx : Loc X.env.scope x := by first | exact Or.inl rfl | exact Or.inr rfl) (hf : X.fn x = true ∨ X.env.scope.names.lookup x = some .local := by first | exact .inl rfl | exact .inr rfl) : PG X (.Name x pos) (gT (cg X) (.nm i)) := by
  refine PG.weak (pg_name hN hi hx hf) fun v σ H Q ⟨w, S, d, S', s, r, e, q⟩ => ?_
  simp only [asg] at e
  cases e
  refine q _ ⟨s.setVal r, Step.setVal .., fun j hj => ?_, by rw [List.length_set]⟩
  have hj : j ≠ i := fun z => hj (by rw [z]; simp only [Tg.ix]; exact List.mem_singleton.mpr rfl)
  rw [List.getElem?_set_ne (Ne.symm hj)]
theorem mgs_nil : PGs X [] (gTs (cg X) []) := by
  refine PGs.weak pgs_nil fun vs σ H Q ⟨w, S, ds, S', s, r, e, q⟩ => ?_
  cases ds with
  | nil =>
    simp only [asgs] at e; cases e
    exact ⟨reps_nil.mp r, q σ ⟨s, .refl .., fun _ _ => rfl, rfl⟩⟩
  | cons d ds => simp only [asgs] at e; cases e
theorem mgs_cons {e : Expr} {es : List Expr} {T : Tg} {Ts : List Tg} (h1 : PG X e (gT (cg X) T)) (h2 : PGs X es (gTs (cg X) Ts)) (hs : (assignEach (e :: es) X.env).map (·.2) = assign e X.env :: (assignEach es X.env).map (·.2) := by rfl) : PGs X (e :: es) (gTs (cg X) (T :: Ts)) := by
  refine PGs.weak (pgs_cons h1 h2 hs) fun vs σ H Q ⟨w, S, ds, S', s, r, e, q⟩ => ?_
  cases ds with
  | nil => simp only [asgs] at e; cases e
  | cons d ds =>
    obtain ⟨v, t, rfl, r1, r2⟩ := reps_cons.mp r
    simp only [asgs] at e
    cases e1 : asg T d S with
    | none => rw [e1] at e; cases e
    | some S1 =>
      rw [e1] at e
      refine ⟨v, t, rfl, w, S, d, S1, s, r1, e1, fun σ1 k1 => ?_⟩
      refine ⟨w, S1, ds, S', k1.sim, r2, e, fun σ2 k2 => ?_⟩
      refine q σ2 ⟨k2.sim, k1.st.trans k2.st, fun i hi => ?_, k2.len.trans k1.len⟩
      simp only [Tg.ixs, List.mem_append, not_or] at hi
      rw [k2.out i hi.2, k1.out i hi.1]
theorem mg_tp {es : List Expr} {k n : Nat} {Ts : List Tg} (hc : X.calm = true) (h : PGs X es (gTs (cg X) Ts)) (hn : (assignEach es X.env).length = n := by rfl) (hl : Ts.length = n := by rfl) (hst : (assignEach es X.env).findIdx? (·.1) = none := by rfl) : PG X (.Tuple es k pos) (gT (cg X) (.tp Ts)) := by
  refine PG.weak (PG.or (pg_tup hc h hn hst) (pg_lst hc h hn hst)) fun v σ H Q ⟨w, S, d, S', s, r, e, q⟩ => ?_
  simp only [asg] at e
  cases ev : vwD S d with
  | none => rw [ev] at e; cases e
  | some x =>
    obtain ⟨b, ds⟩ := x
    rw [ev] at e
    have e : asgs Ts ds S = some S' := e
    obtain ⟨a, vs, rfl, k1, k2⟩ := vwR_of s r ev
    have hlen : ∀ (Ts : List Tg) (ds : List D) (S S' : Sg), asgs Ts ds S = some S' → Ts.length = ds.length := by
      intro Ts
      induction Ts with
      | nil =>
        intro ds S S' e
        cases ds with
        | nil => rfl
        | cons _ _ => simp only [asgs] at e; cases e
      | cons T Ts ih =>
        intro ds S S' e
        cases ds with
        | nil => simp only [asgs] at e; cases e
        | cons d ds =>
          simp only [asgs] at e
          cases e1 : asg T d S with
          | none => rw [e1] at e; cases e
          | some S1 =>
            rw [e1] at e
            simp only [List.length_cons, ih ds S1 S' e]
    have hvl : vs.length = n := by rw [← k2.length, ← hlen Ts ds S S' e]; exact hl
    have q' : gTs (cg X) Ts vs σ H Q := ⟨w, S, ds, S', s, k2, e, fun σ' k => q σ' ⟨k.sim, k.st, fun i hi => k.out i (by simpa only [Tg.ix] using hi), k.len⟩⟩
    cases b with
    | true => exact .inr ⟨a, vs, rfl, seqL_t k1, hvl, q'⟩
    | false => exact .inl ⟨a, vs, rfl, seqL_f k1, hvl, q'⟩
end

/-! ### what is walked -/
/-- what is walked: the items, and what must stand at each turn -/
structure Src where
  ds : List D
  ok : Sg → Prop
def SrcOk (c : Gm) (w0 : Wd) (J : It) (s : Src) : Prop := ∀ i w S σ H, Le w0 w → Sim c w S σ H → s.ok S →
  (∀ d, s.ds[i]? = some d → J.go i H ∧ ∀ x H', J.yld i H x H' → ∃ w', Step w S σ H w' S σ H' ∧ Sim c w' S σ H' ∧ Rep c w' d x) ∧ (s.ds.length ≤ i → J.stop i H)
def TIm (c : Gm) (E : XK) (src : M Src) : TI := fun σ H R => ∃ w S, Sim c w S σ H ∧ Po c E (src S) w S σ H fun ds w' _ H' => ∀ J, SrcOk c w' J ds → R J H'
def always : Sg → Prop := fun _ => True
def itemsD (d : D) : M Src := fun S => match vwD S d with
  | some x => .ok ⟨x.2, fun S' => vwD S' d = some x⟩ S
  | none => .stuck
def iSeq (K : PySem.W.Frag) (tl : TE) : TI := fun σ H R => tl σ H fun x H1 => ∃ a, x = .ref a ∧ (((∃ xs, SqL K H1 a xs) ∧ R (Itl K a) H1) ∨ ((∃ xs, SqT K H1 a xs) ∧ R (Itt K a) H1))
theorem pi_seq {X : Cx} {tg l : Expr} {tl : TE} (hl : PE X l tl) : PI X tg l (iSeq X.K tl) := by
  refine ⟨fun pins s σ H R I h => ?_⟩
  refine thn (hl.run pins s σ H _ I h) fun v s1 ⟨x, H1, I1, r1, a, e, q⟩ => ?_
  have z : iList X.K (fun _ _ Q => Q x H1) σ H1 R ∨ iTup X.K (fun _ _ Q => Q x H1) σ H1 R := by
    rcases q with ⟨hq, q⟩ | ⟨hq, q⟩
    · exact .inl ⟨a, e, hq, q⟩
    · exact .inr ⟨a, e, hq, q⟩
  subst e
  cases r1
  rcases q with ⟨⟨xs, hq⟩, q⟩ | ⟨⟨xs, hq⟩, q⟩
  · obtain ⟨its, rv, p, hz⟩ := I1.list hq
    refine wpAny_pyIter_list p.isList ?_
    refine ⟨s1.heap.objs.size, [s1.heap.objs.size], _, _, H1, rfl, I1.kept (t' := s1.toks) fun b o e => Heap.get?_push_of_some _ e, turn_list a _, ⟨_, Heap.get?_push_size _ rfl, rfl, rfl⟩, fun b hb => ?_, q⟩
    have e : b = s1.heap.objs.size := by simpa using hb
    subst e
    exact I1.fpOk (Nat.le_refl _) (I1.hok.fresh (Nat.le_refl _))
  · obtain ⟨its, rv, p, hz⟩ := I1.tuple hq
    refine wpAny_pyIter_tuple (show s1.heap.IsTuple a its.toArray from p) ?_
    refine ⟨s1.heap.objs.size, [s1.heap.objs.size], _, _, H1, rfl, I1.kept (t' := s1.toks) fun b o e => Heap.get?_push_of_some _ e, turn_tuple a _, ⟨_, Heap.get?_push_size _ rfl, rfl, rfl⟩, fun b hb => ?_, q⟩
    have e : b = s1.heap.objs.size := by simpa using hb
    subst e
    exact I1.fpOk (Nat.le_refl _) (I1.hok.fresh (Nat.le_refl _))
section
variable {c : Gm} {w0 : Wd} {a : Addr} {vs : List V} {ds : List D}
theorem src_seq {d : D} {x : Vw} (h : Rep c w0 d (.ref a)) (J : It) (hJ : J = if x.1 = true then Itl c.K a else Itt c.K a) : SrcOk c w0 J ⟨x.2, fun S' => vwD S' d = some x⟩ := fun i w S σ H l s hx => by
  subst hJ
  obtain ⟨a', vs, e, k1, k2⟩ := vwR_of s (Rep.mono l _ _ h) hx
  cases e
  obtain ⟨b, ds⟩ := x
  cases b with
  | true =>
    have hs : SqL c.K H a vs := .inl (.inl k1)
    refine ⟨fun d hd => ?_, fun hi => ⟨vs, hs, by rw [← k2.length]; exact hi⟩⟩
    obtain ⟨v, hv, rv⟩ := k2.get hd
    refine ⟨⟨vs, v, hs, hv⟩, fun x H' y => ?_⟩
    obtain ⟨e, y⟩ := y
    subst e
    have z := y vs hs
    rw [hv] at z; cases z
    exact ⟨w, .refl .., s, rv⟩
  | false =>
    have hs : SqT c.K H a vs := .inl (.inl k1)
    refine ⟨fun d hd => ?_, fun hi => ⟨vs, hs, by rw [← k2.length]; exact hi⟩⟩
    obtain ⟨v, hv, rv⟩ := k2.get hd
    refine ⟨⟨vs, v, hs, hv⟩, fun x H' y => ?_⟩
    obtain ⟨e, y⟩ := y
    subst e
    have z := y vs hs
    rw [hv] at z; cases z
    exact ⟨w, .refl .., s, rv⟩
def rngD (lo : Int) (n : Nat) : List D := (List.range n).map fun i => D.int (lo + (i : Nat))
theorem rngD_get {lo : Int} {n i : Nat} {d : D} (h : (rngD lo n)[i]? = some d) : i < n ∧ d = .int (lo + (i : Nat)) := by
  unfold rngD at h
  rw [List.getElem?_map] at h
  obtain ⟨k, hk, e⟩ := Option.map_eq_some_iff.mp h
  obtain ⟨h1, h2⟩ := List.getElem?_eq_some_iff.mp hk
  rw [List.getElem_range] at h2
  subst h2
  rw [List.length_range] at h1
  exact ⟨h1, e.symm⟩
theorem src_rng {lo : Int} {n : Nat} : SrcOk c w0 (Itr lo n) ⟨rngD lo n, always⟩ := fun i w S σ H l s _ => by
  refine ⟨fun d hd => ?_, fun hi => ?_⟩
  · obtain ⟨h1, rfl⟩ := rngD_get hd
    refine ⟨h1, fun x H' y => ?_⟩
    obtain ⟨e, y⟩ := y
    subst e
    exact ⟨w, .refl .., s, by rw [y]; exact of_int⟩
  · show n ≤ i
    simpa [rngD] using hi
end
section
variable {X : Cx} {E : XK} {pos p : Pos} {tg e a b : Expr} {m : M D} {ms : M (List D)}
theorem mi_seq (h : PE X e (TM (cg X) E m)) : PI X tg e (TIm (cg X) E (bd m itemsD)) := by
  refine PI.weak (pi_seq h) fun σ H R ⟨w, S, s, po⟩ => ⟨w, S, s, ?_⟩
  refine Po.two (k := itemsD) po fun d w1 S1 H1 st1 s1 po1 v r => ?_
  unfold itemsD at po1
  cases ev : vwD S1 d with
  | none => rw [ev] at po1; exact po1.elim
  | some x =>
    rw [ev] at po1
    obtain ⟨a, vs, rfl, k1, k2⟩ := vwR_of s1 r ev
    refine ⟨a, rfl, ?_⟩
    obtain ⟨b, ds⟩ := x
    cases b with
    | true => exact .inl ⟨⟨vs, .inl (.inl k1)⟩, po1 w1 H1 (.refl ..) s1 _ (src_seq r _ rfl)⟩
    | false => exact .inr ⟨⟨vs, .inl (.inl k1)⟩, po1 w1 H1 (.refl ..) s1 _ (src_seq r _ rfl)⟩
def rng1 : D → M Src
  | .int j => if -(2 ^ 62) ≤ j ∧ j < 2 ^ 62 then ret ⟨rngD 0 j.toNat, always⟩ else nope
  | _ => nope
def rng2 : D → D → M Src
  | .int i, .int j => if -(2 ^ 62) ≤ i ∧ i < 2 ^ 62 ∧ -(2 ^ 62) ≤ j ∧ j < 2 ^ 62 then ret ⟨rngD i (j - i).toNat, always⟩ else nope
  | _, _ => nope
theorem mi_range1 (hg : Gl X "range") (hm : X.mg "range" = none) (ha : PE X a (TM (cg X) E m)) (hs : starEach [a] X.env = [(false, eval a X.env)] := by rfl) : PI X tg (.Call (.Name "range" p) [a] [] pos) (TIm (cg X) E (bd m rng1)) := by
  refine PI.weak (pi_range1 hg hm (pa_cons ha pa_nil hs) hs) fun σ H R ⟨w, S, s, po⟩ => ?_
  refine ⟨w, S, s, Po.two (k := rng1) po fun d w1 S1 H1 st1 s1 po1 v r => ?_⟩
  cases d with
  | int j =>
    have po1 : Po (cg X) E ((if -(2 ^ 62) ≤ j ∧ j < 2 ^ 62 then ret ⟨rngD 0 j.toNat, always⟩ else nope : M Src) S1) w1 S1 σ H1 _ := po1
    by_cases z : -(2 ^ 62) ≤ j ∧ j < 2 ^ 62
    · rw [if_pos z] at po1
      exact ⟨j, by rw [rep_int r], z.1, z.2, po1 w1 H1 (.refl ..) s1 _ src_rng⟩
    · rw [if_neg z] at po1; exact po1.elim
  | _ => exact po1.elim
/-! ### for -/
/-- the turns, with nothing to be looked at -/
def forL (T : Tg) (b : M Fl) : List D → M Fl
  | [] => ret .nx
  | d :: ds => fun S => match asg T d S with
    | none => .stuck
    | some S1 => (b S1).bind fun f => match f with
      | .nx => forL T b ds
      | .ct => forL T b ds
      | .bk => ret .nx
      | .rt d => ret (.rt d)
open Classical in
noncomputable def forG (T : Tg) (b : M Fl) (ok : Sg → Prop) : List D → M Fl
  | [] => fun S => if ok S then .ok .nx S else .stuck
  | d :: ds => fun S => if ok S then (match asg T d S with
    | none => .stuck
    | some S1 => (b S1).bind fun f => match f with
      | .nx => forG T b ok ds
      | .ct => forG T b ok ds
      | .bk => ret .nx
      | .rt d => ret (.rt d)) else .stuck
noncomputable def forM (T : Tg) (b : M Fl) (s : Src) : M Fl := forG T b s.ok s.ds
theorem ms_for {iter : Expr} {body : List Stmt} {src : M Src} {T : Tg} {bm : M Fl} (hp : PassesOwn (model X.prog X.w) X.A X.env X.xe) (hc : X.calm = true) (hi : PI X tg iter (TIm (cg X) E src)) (hg : PG X tg (gT (cg X) T)) (hb : PSs X body (TSm (cg X) E bm))
    (hs : ∀ x, foldedSetIterable iter X.env x = pure x := by intro _; rfl) : PS X (.For tg iter body [] pos) (TSm (cg X) E (bd src (Mm.forM T bm))) := by
  refine PS.weak (ps_for hp hc hi hg hb hs) fun Dn σ H ⟨w, S, s, po⟩ => ?_
  refine ⟨w, S, s, PoS.two (k := Mm.forM T bm) po fun sr w1 S1 H1 st1 s1 po1 J hJ => ?_⟩
  obtain ⟨ds, ok⟩ := sr
  refine ⟨fun i m σ2 H2 => m = ds.length - i ∧ i ≤ ds.length ∧ ∃ w2 S2, Le w1 w2 ∧ Sim (cg X) w2 S2 σ2 H2 ∧ PoS (cg X) E (forG T bm ok (ds.drop i) S2) w2 S2 σ2 H2 Dn, ⟨ds.length, by simp, Nat.zero_le _, w1, S1, .refl _, s1, po1⟩, ?_⟩
  rintro i m σ2 H2 ⟨rfl, hi, w2, S2, l2, s2, po2⟩
  have hok : ok S2 := by
    refine Classical.byContradiction fun z => ?_
    cases e : ds.drop i with
    | nil => rw [e] at po2; simp only [forG, if_neg z] at po2; exact po2
    | cons d t => rw [e] at po2; simp only [forG, if_neg z] at po2; exact po2
  obtain ⟨go, stop⟩ := hJ i w2 S2 σ2 H2 l2 s2 hok
  by_cases hlt : i < ds.length
  · have hd : ds[i]? = some ds[i] := List.getElem?_eq_getElem hlt
    obtain ⟨g1, g2⟩ := go _ hd
    refine .inr ⟨g1, fun σ3 H3 => ∃ m', m' < ds.length - i ∧ (m' = ds.length - (i + 1) ∧ i + 1 ≤ ds.length ∧ ∃ w2 S2, Le w1 w2 ∧ Sim (cg X) w2 S2 σ3 H3 ∧ PoS (cg X) E (forG T bm ok (ds.drop (i + 1)) S2) w2 S2 σ3 H3 Dn), fun _ _ h => h, fun x H' y => ?_⟩
    obtain ⟨w3, st3, s3, r3⟩ := g2 x H' y
    rw [List.drop_eq_getElem_cons hlt] at po2
    simp only [forG, if_pos hok] at po2
    cases ea : asg T ds[i] S2 with
    | none => simp only [ea] at po2; exact po2.elim
    | some S4 =>
      simp only [ea] at po2
      refine ⟨w3, S2, ds[i], S4, s3, r3, ea, fun σ4 k4 => ?_⟩
      have po3 := PoS.rebase (st3.trans k4.st) po2
      refine ⟨w3, S4, k4.sim, PoS.seq po3 fun f w5 S5 σ5 H5 st5 s5 po5 => ?_⟩
      have l5 : Le w1 w5 := (l2.trans st3.le).trans st5.le
      cases f with
      | nx => exact ⟨_, by omega, rfl, hlt, w5, S5, l5, s5, po5⟩
      | ct => exact ⟨_, by omega, rfl, hlt, w5, S5, l5, s5, po5⟩
      | bk => exact PoS.here (E := E) (f := .nx) s5 po5
      | rt d => exact PoS.here (E := E) (f := .rt d) s5 po5
  · have e : i = ds.length := by omega
    subst e
    refine .inl ⟨stop (Nat.le_refl _), ?_⟩
    rw [List.drop_length] at po2
    simp only [forG, if_pos hok] at po2
    exact PoS.here (E := E) (f := .nx) s2 po2
end
end Mm
end

section
/-! MmF: comprehensions, what is walked in pairs, what changes in place, attributes, defs and their calls. -/
namespace Mm
open PySem L2
variable [TabCtx]

/-! ### comprehensions -/
def wipeL (sl : List Slot) : List Nat → List Slot
  | [] => sl
  | v :: vs => (wipeL sl vs).set v .emp
def resL (a b : List Slot) : List Nat → List Slot
  | [] => b
  | v :: vs => (resL a b vs).set v (a.getD v .emp)
def noOwn (sl : List Slot) (vs : List Nat) : Bool := vs.all fun v => match sl[v]? with | some (.own _) => false | _ => true
def inner (vs : List Nat) (S : Sg) : Sg := ⟨wipeL S.sl vs, S.g⟩
def outer (vs : List Nat) (S S' : Sg) : Sg := ⟨resL S.sl S'.sl vs, S'.g⟩
theorem wipeL_len (sl : List Slot) : ∀ vs, (wipeL sl vs).length = sl.length
  | [] => rfl
  | v :: vs => by unfold wipeL; rw [List.length_set, wipeL_len sl vs]
theorem resL_len (a b : List Slot) : ∀ vs, (resL a b vs).length = b.length
  | [] => rfl
  | v :: vs => by unfold resL; rw [List.length_set, resL_len a b vs]
theorem wipeL_in {sl : List Slot} {i : Nat} : ∀ {vs : List Nat}, i ∈ vs → i < sl.length → (wipeL sl vs)[i]? = some .emp
  | v :: vs, h, hl => by
    unfold wipeL
    by_cases e : i = v
    · subst e; rw [List.getElem?_set_self (by rw [wipeL_len]; exact hl)]
    · rw [List.getElem?_set_ne (Ne.symm e)]
      exact wipeL_in ((List.mem_cons.mp h).resolve_left e) hl
theorem wipeL_out {sl : List Slot} {i : Nat} : ∀ {vs : List Nat}, i ∉ vs → (wipeL sl vs)[i]? = sl[i]?
  | [], _ => rfl
  | v :: vs, h => by
    unfold wipeL
    rw [List.getElem?_set_ne fun e => h (by rw [e]; exact List.mem_cons_self)]
    exact wipeL_out fun z => h (List.mem_cons_of_mem _ z)
theorem resL_in {a b : List Slot} {i : Nat} : ∀ {vs : List Nat}, i ∈ vs → i < b.length → (resL a b vs)[i]? = some (a.getD i .emp)
  | v :: vs, h, hl => by
    unfold resL
    by_cases e : i = v
    · subst e; rw [List.getElem?_set_self (by rw [resL_len]; exact hl)]
    · rw [List.getElem?_set_ne (Ne.symm e)]
      exact resL_in ((List.mem_cons.mp h).resolve_left e) hl
theorem resL_out {a b : List Slot} {i : Nat} : ∀ {vs : List Nat}, i ∉ vs → (resL a b vs)[i]? = b[i]?
  | [], _ => rfl
  | v :: vs, h => by
    unfold resL
    rw [List.getElem?_set_ne fun e => h (by rw [e]; exact List.mem_cons_self)]
    exact resL_out fun z => h (List.mem_cons_of_mem _ z)
theorem wipe_out' {σ : FSt} {i : Nat} : ∀ {vs : List Nat}, i ∉ vs → (wipe σ vs)[i]? = σ[i]?
  | [], _ => rfl
  | v :: vs, h => by
    unfold wipe
    rw [List.getElem?_set_ne fun e => h (by rw [e]; exact List.mem_cons_self)]
    exact wipe_out' fun z => h (List.mem_cons_of_mem _ z)
section
variable {c : Gm} {w w' : Wd} {S S' : Sg} {σ σ' : FSt} {H H' : Hp} {vs : List Nat}
theorem inner_own {i : Nat} {x : Cell} (hl : S.sl.length = σ.length) (e : (inner vs S).sl[i]? = some (.own x)) : i ∉ vs ∧ S.sl[i]? = some (.own x) := by
  have e : (wipeL S.sl vs)[i]? = some (.own x) := e
  by_cases h : i ∈ vs
  · have hi : i < S.sl.length := by
      have := (List.getElem?_eq_some_iff.mp e).1
      rwa [wipeL_len] at this
    rw [wipeL_in h hi] at e; cases e
  · rw [wipeL_out h] at e; exact ⟨h, e⟩
theorem inner_mu (hl : S.sl.length = σ.length) {a : Addr} (m : Mu w (inner vs S) (wipe σ vs) a) : Mu w S σ a := by
  rcases m with m | ⟨i, x, e, k⟩
  · exact .inl m
  · obtain ⟨_, e2⟩ := inner_own hl e
    exact .inr ⟨i, x, e2, (wipe_some k).1⟩
theorem Sim.inner (s : Sim c w S σ H) : Sim c w (Mm.inner vs S) (wipe σ vs) H where
  n := s.n
  fzz := s.fzz
  cell := s.cell
  inj := s.inj
  len := by show (wipeL S.sl vs).length = (wipe σ vs).length; rw [wipeL_len, wipe_length]; exact s.len
  val := fun i d e => by
    have e : (wipeL S.sl vs)[i]? = some (.val d) := e
    by_cases h : i ∈ vs
    · have hi : i < S.sl.length := by
        have := (List.getElem?_eq_some_iff.mp e).1
        rwa [wipeL_len] at this
      rw [wipeL_in h hi] at e; cases e
    · rw [wipeL_out h] at e
      obtain ⟨v, k1, k2⟩ := s.val i d e
      exact ⟨v, (wipe_out' h).trans k1, k2⟩
  own := fun i x e => by
    obtain ⟨h, e⟩ := inner_own s.len e
    obtain ⟨p, k1, k2⟩ := s.own i x e
    exact ⟨p, (wipe_out' h).trans k1, k2⟩
  ownInj := fun i j x y p e e' k k' => by
    obtain ⟨_, e⟩ := inner_own s.len e
    obtain ⟨_, e'⟩ := inner_own s.len e'
    exact s.ownInj i j x y p e e' (wipe_some k).1 (wipe_some k').1
  tb := s.tb
theorem Step.inner (s : Sim c w S σ H) : Step w S σ H w (Mm.inner vs S) (wipe σ vs) H :=
  ⟨.refl w, fun a o h1 _ h2 h3 => ⟨h1, h2, fun m => h3 (inner_mu s.len m)⟩, fun _ h => h⟩
/-- back from a turn: σ' is σ but for the slots at vs -/
theorem outer_own {i : Nat} {x : Cell} (no : noOwn S.sl vs = true) (e : (outer vs S S').sl[i]? = some (.own x)) : i ∉ vs ∧ S'.sl[i]? = some (.own x) := by
  have e : (resL S.sl S'.sl vs)[i]? = some (.own x) := e
  by_cases h : i ∈ vs
  · have hi : i < S'.sl.length := by
      have := (List.getElem?_eq_some_iff.mp e).1
      rwa [resL_len] at this
    rw [resL_in h hi] at e
    have q := List.all_eq_true.mp no i h
    have e2 : S.sl.getD i .emp = .own x := Option.some.inj e
    rw [List.getD_eq_getElem?_getD] at e2
    cases hs : S.sl[i]? with
    | none => rw [hs] at e2; cases e2
    | some y =>
      rw [hs] at e2 q
      have e3 : y = .own x := e2
      subst e3
      cases q
  · rw [resL_out h] at e; exact ⟨h, e⟩
theorem Sim.outer (s0 : Sim c w S σ H) (no : noOwn S.sl vs = true) (l : Le w w') (s : Sim c w' S' σ' H') (ho : ∀ i, i ∉ vs → σ'[i]? = σ[i]?) (hlen : σ'.length = σ.length) : Sim c w' (Mm.outer vs S S') σ H' where
  n := s.n
  fzz := s.fzz
  cell := s.cell
  inj := s.inj
  len := by show (resL S.sl S'.sl vs).length = σ.length; rw [resL_len, s.len]; exact hlen
  val := fun i d e => by
    have e : (resL S.sl S'.sl vs)[i]? = some (.val d) := e
    by_cases h : i ∈ vs
    · have hi : i < S'.sl.length := by
        have := (List.getElem?_eq_some_iff.mp e).1
        rwa [resL_len] at this
      rw [resL_in h hi] at e
      have e2 : S.sl.getD i .emp = .val d := Option.some.inj e
      rw [List.getD_eq_getElem?_getD] at e2
      cases hs : S.sl[i]? with
      | none => rw [hs] at e2; cases e2
      | some y =>
        rw [hs] at e2
        have e3 : y = .val d := e2
        subst e3
        obtain ⟨v, k1, k2⟩ := s0.val i d hs
        exact ⟨v, k1, Rep.mono l _ _ k2⟩
    · rw [resL_out h] at e
      obtain ⟨v, k1, k2⟩ := s.val i d e
      exact ⟨v, (ho i h).symm.trans k1, k2⟩
  own := fun i x e => by
    obtain ⟨h, e⟩ := outer_own no e
    obtain ⟨p, k1, k2⟩ := s.own i x e
    exact ⟨p, (ho i h).symm.trans k1, k2⟩
  ownInj := fun i j x y p e e' k k' => by
    obtain ⟨h, e⟩ := outer_own no e
    obtain ⟨h', e'⟩ := outer_own no e'
    exact s.ownInj i j x y p e e' ((ho i h).trans k) ((ho j h').trans k')
  tb := s.tb
theorem Step.outer (no : noOwn S.sl vs = true) (ho : ∀ i, i ∉ vs → σ'[i]? = σ[i]?) : Step w' S' σ' H' w' (Mm.outer vs S S') σ H' :=
  ⟨.refl w', fun a o h1 _ h2 h3 => ⟨h1, h2, fun m => h3 (by
    rcases m with m | ⟨i, x, e, k⟩
    · exact .inl m
    · obtain ⟨h, e⟩ := outer_own no e
      exact .inr ⟨i, x, e, (ho i h).trans k⟩)⟩, fun _ h => h⟩
/-- nobody's object is written -/
theorem Sim.loose (s : Sim c w S σ H) {p : Addr} {o : HO} (hf : w.Hf p = none) (hm : ¬ Mu w S σ p) (hnt : ∀ o, H p = some o → NT o ∧ ∀ q, o ≠ LamX.CodeO p q) : Sim c w S σ (upd H p o) where
  tb := tabs_upd s.tb hnt
  n := s.n
  fzz := fun a u e => by rw [upd_ne fun z => by rw [z, hf] at e; cases e]; exact s.fzz a u e
  cell := fun r x e => by
    obtain ⟨k1, k2, k3⟩ := s.cell r x e
    exact ⟨k1, k2.mono (.refl w) (upd_ne fun z => hm (.inl ⟨r, x, e, z⟩)), k3⟩
  inj := s.inj
  len := s.len
  val := s.val
  own := fun i x e => by
    obtain ⟨q, k1, k2, k3, k4⟩ := s.own i x e
    exact ⟨q, k1, k2.mono (.refl w) (upd_ne fun z => hm (.inr ⟨i, x, e, by rw [← z]; exact k1⟩)), k3, k4⟩
  ownInj := s.ownInj
end
/-- an exception within a comprehension is not spoken of -/
def noX {α : Type} (m : M α) : M α := fun S => match m S with | .ok a S' => .ok a S' | _ => .stuck
def yesM : M Bool := ret true
def lcL (T : Tg) (vs : List Nat) (t : M Bool) (e : M D) : List D → List D → M (List D)
  | [], acc => ret acc
  | d :: ds, acc => fun S => match asg T d (inner vs S) with
    | none => .stuck
    | some S1 => match t S1 with
      | .ok true S2 => match e S2 with
        | .ok y S3 => if acc.length < sizeLine then lcL T vs t e ds (acc ++ [y]) (outer vs S S3) else .stuck
        | _ => .stuck
      | .ok false S2 => lcL T vs t e ds acc (outer vs S S2)
      | _ => .stuck
open Classical in
noncomputable def lcG (T : Tg) (vs : List Nat) (t : M Bool) (e : M D) (ok : Sg → Prop) : List D → List D → M (List D)
  | [], acc => fun S => if ok S then .ok acc S else .stuck
  | d :: ds, acc => fun S => if ok S then (match asg T d (inner vs S) with
    | none => .stuck
    | some S1 => match t S1 with
      | .ok true S2 => match e S2 with
        | .ok y S3 => if acc.length < sizeLine then lcG T vs t e ok ds (acc ++ [y]) (outer vs S S3) else .stuck
        | _ => .stuck
      | .ok false S2 => lcG T vs t e ok ds acc (outer vs S S2)
      | _ => .stuck) else .stuck
noncomputable def lcM (src : M Src) (T : Tg) (vs : List Nat) (t : M Bool) (e : M D) : M Cell := bd src fun s S => if noOwn S.sl vs = true ∧ (∀ i ∈ T.ix, i ∈ vs) then ((lcG T vs t e s.ok s.ds [] S).bind fun acc => ret (.lst acc)) else .stuck
def TBs (c : Gm) (E : XK) (m : M Bool) : TT := TB c E m
section
variable {X : Cx} {E : XK} {pos : Pos}
theorem wipe_eq {σ σ' : FSt} {vs : List Nat} (ho : ∀ i, i ∉ vs → σ'[i]? = σ[i]?) (hl : σ'.length = σ.length) : wipe σ' vs = wipe σ vs := by
  refine List.ext_getElem? fun i => ?_
  by_cases h : i ∈ vs
  · by_cases hi : i < σ.length
    · have f : ∀ τ : FSt, i < τ.length → (wipe τ vs)[i]? = some none := fun τ ht => by
        cases e : (wipe τ vs)[i]? with
        | none =>
          have := List.getElem?_eq_none_iff.mp e
          rw [wipe_length] at this; omega
        | some o =>
          cases o with
          | none => rfl
          | some v => exact absurd h (wipe_some e).2
      rw [f σ hi, f σ' (by rw [hl]; exact hi)]
    · rw [List.getElem?_eq_none (by rw [wipe_length]; omega), List.getElem?_eq_none (by rw [wipe_length]; omega)]
  · rw [wipe_out' h, wipe_out' h]; exact ho i h
theorem tlc_of {src : M Src} {T : Tg} {mt : M Bool} {me : M D} {vs : List Nat} : ∀ σ H Q, TC (cg X) E (lcM src T vs mt me) σ H Q → tLc (TIm (cg X) E src) (gT (cg X) T) (TB (cg X) E0 mt) (TM (cg X) E0 me) vs σ H Q := by
  rintro σ H Q ⟨w, S, s, po⟩
  unfold lcM at po
  refine ⟨w, S, s, Po.two po fun sr w1 S1 H1 st1 s1 po1 J hJ => ?_⟩
  obtain ⟨ds, ok⟩ := sr
  by_cases hno : noOwn S1.sl vs = true ∧ (∀ i ∈ T.ix, i ∈ vs)
  case neg => rw [if_neg hno] at po1; exact po1.elim
  rw [if_pos hno] at po1
  obtain ⟨no, hix⟩ := hno
  intro Da hD
  have hDs : Nn H Da := st1.th Da (nn_none hD)
  obtain ⟨Kf, hK⟩ : ∃ Kf : Cell → Wd → Sg → Hp → Prop, Kf = fun x w' S' H' => ∀ p, Nn H p → CellR (cg X) w' H' p x → w'.Hf p = none → ¬ Mu w' S' σ p → Q (.ref p) H' := ⟨_, rfl⟩
  rw [← hK] at po1
  -- the state between two turns
  refine ⟨fun i m H2 => m = ds.length - i ∧ i ≤ ds.length ∧ ∃ w2 S2 acc av, Sim (cg X) w2 S2 σ H2 ∧ noOwn S2.sl vs = true ∧ H2 Da = some (.lst av) ∧ Reps (cg X) w2 acc av ∧ w2.Hf Da = none ∧ ¬ Mu w2 S2 σ Da ∧
      Step w1 S1 σ H1 w2 S2 σ H2 ∧ Po (cg X) E ((lcG T vs mt me ok (ds.drop i) acc S2).bind fun acc => ret (Cell.lst acc)) w1 S1 σ H1 Kf, ⟨ds.length, ?_⟩, ?_⟩
  · have stD := Step.laid w1 S1 σ (.lst []) hD
    refine ⟨by simp, Nat.zero_le _, w1, S1, [], [], s1.laid _ hD, no, upd_same, .nil, s1.nofz hD, fun m => ?_, stD, po1⟩
    obtain ⟨_, o, e⟩ := s1.mu m
    rw [hD] at e; cases e
  · rintro i m H2 ⟨rfl, hil, w2, S2, acc, av, s2, no2, hA, rA, fA, mA, st2, po2⟩
    have hok : ok S2 := by
      refine Classical.byContradiction fun z => ?_
      cases e : ds.drop i with
      | nil => rw [e] at po2; simp only [lcG, if_neg z] at po2; exact po2
      | cons d t => rw [e] at po2; simp only [lcG, if_neg z] at po2; exact po2
    obtain ⟨go, stop⟩ := hJ i w2 S2 σ H2 st2.le s2 hok
    by_cases hlt : i < ds.length
    case neg =>
      have e : i = ds.length := by omega
      subst e
      refine .inl ⟨stop (Nat.le_refl _), ?_⟩
      rw [List.drop_length] at po2
      simp only [lcG, if_pos hok] at po2
      have q := po2 w2 H2 st2 s2
      rw [hK] at q
      exact q Da hDs ⟨av, hA, rA⟩ fA mA
    have hd : ds[i]? = some ds[i] := List.getElem?_eq_getElem hlt
    obtain ⟨g1, g2⟩ := go _ hd
    refine .inr ⟨g1, fun H3 => ∃ m', m' < ds.length - i ∧ (m' = ds.length - (i + 1) ∧ i + 1 ≤ ds.length ∧ ∃ w2 S2 acc av, Sim (cg X) w2 S2 σ H3 ∧ noOwn S2.sl vs = true ∧ H3 Da = some (.lst av) ∧ Reps (cg X) w2 acc av ∧ w2.Hf Da = none ∧ ¬ Mu w2 S2 σ Da ∧
      Step w1 S1 σ H1 w2 S2 σ H3 ∧ Po (cg X) E ((lcG T vs mt me ok (ds.drop (i + 1)) acc S2).bind fun acc => ret (Cell.lst acc)) w1 S1 σ H1 Kf), fun _ h => h, fun x H' y => ?_⟩
    obtain ⟨w3, st3, s3, r3⟩ := g2 x H' y
    rw [List.drop_eq_getElem_cons hlt] at po2
    simp only [lcG, if_pos hok] at po2
    cases ea : asg T ds[i] (inner vs S2) with
    | none => simp only [ea] at po2; exact po2.elim
    | some S4 =>
      simp only [ea] at po2
      refine ⟨w3, inner vs S2, ds[i], S4, s3.inner, r3, ea, fun σ4 k4 => ?_⟩
      have out4 : ∀ j, j ∉ vs → σ4[j]? = σ[j]? := fun j hj => (k4.out j fun z => hj (hix j z)).trans (wipe_out' hj)
      have len4 : σ4.length = σ.length := k4.len.trans (wipe_length σ vs)
      have stI : Step w2 S2 σ H2 w3 S4 σ4 H' := (st3.trans (Step.inner s3)).trans k4.st
      have ewipe : wipe (wipe σ vs) vs = wipe σ vs := wipe_eq (fun j hj => wipe_out' hj) (wipe_length σ vs)
      refine ⟨wipe_eq out4 len4, w3, S4, k4.sim, ?_⟩
      have back : ∀ {w5 : Wd} {S5 : Sg} {H5 : Hp}, Step w3 S4 σ4 H' w5 S5 σ4 H5 → Sim (cg X) w5 S5 σ4 H5 → Step w2 S2 σ H2 w5 (outer vs S2 S5) σ H5 ∧ Sim (cg X) w5 (outer vs S2 S5) σ H5 ∧ noOwn (outer vs S2 S5).sl vs = true ∧ H5 Da = some (.lst av) ∧ w5.Hf Da = none ∧ ¬ Mu w5 (outer vs S2 S5) σ Da := fun {w5 S5 H5} st5 s5 => by
        have so := s2.outer no2 (stI.le.trans st5.le) s5 out4 len4
        have sto : Step w2 S2 σ H2 w5 (outer vs S2 S5) σ H5 := (stI.trans st5).trans (Step.outer no2 out4)
        obtain ⟨b1, b2, b3⟩ := sto.keep Da _ hA .lst fA mA
        refine ⟨sto, so, List.all_eq_true.mpr fun v hv => ?_, b1, b2, b3⟩
        cases hs : (outer vs S2 S5).sl[v]? with
        | none => rfl
        | some z =>
          cases z with
          | own x => exact absurd hv (outer_own no2 hs).1
          | emp => rfl
          | val d => rfl
      cases et : mt S4 with
      | stuck => simp only [et] at po2; exact po2.elim
      | exc _ _ _ => simp only [et] at po2; exact po2.elim
      | ok b S5 =>
        simp only [et] at po2
        intro w5 H5 st5 s5
        cases b with
        | false =>
          obtain ⟨b1, b2, b3, b4, b5, b6⟩ := back st5 s5
          exact ⟨_, by omega, rfl, hlt, w5, _, acc, av, b2, b3, b4, Reps.mono b1.le _ _ rA, b5, b6, st2.trans b1, po2⟩
        | true =>
          refine ⟨w5, S5, s5, ?_⟩
          cases ey : me S5 with
          | stuck => simp only [ey] at po2; exact po2.elim
          | exc _ _ _ => simp only [ey] at po2; exact po2.elim
          | ok y S6 =>
            simp only [ey] at po2
            intro w6 H6 st6 s6 v r6
            obtain ⟨b1, b2, b3, b4, b5, b6⟩ := back (st5.trans st6) s6
            by_cases hz : acc.length < sizeLine
            case neg => rw [if_neg hz] at po2; exact po2.elim
            rw [if_pos hz] at po2
            have rA6 := Reps.mono b1.le _ _ rA
            refine ⟨av, b4, by rw [← rA.length]; exact hz, _, by omega, rfl, hlt, w6, _, acc ++ [y], av ++ [v], b2.loose b5 b6 (nt_lst b4), b3, upd_same, rA6.snoc r6, b5, b6, ?_, po2⟩
            have stL : Step w1 S1 σ H1 w6 (outer vs S2 S6) σ H6 := st2.trans b1
            exact ⟨stL.le, fun a o h1 n h2 h3 => by
              obtain ⟨q1, q2, q3⟩ := stL.keep a o h1 n h2 h3
              exact ⟨by rw [upd_ne (ne_of_none h1 hD)]; exact q1, q2, q3⟩, fun a h => stL.th a (upd_th .lst a h)⟩
variable {elt tg iter : Expr} {ifs : List Expr} {scope : Scope} {own : List (Str × Nat)} {src : M Src} {T : Tg} {mt : M Bool} {me : M D}
theorem mc_lc (hc : X.calm = true) (hN : X.N.Nodup) (hi : PI X tg iter (TIm (cg X) E src)) (ok : BlkOk X.N X.env.scope scope own)
    (hg : ∀ (s : Shared) (H : Hp) (C : Addr) (cl : List (Str × Addr)) (fp : List Addr), PG (X.blk s H scope (compEnvC scope cl C X.env) fp) tg (gT (cg X) T))
    (ht : ∀ (s : Shared) (H : Hp) (C : Addr) (cl : List (Str × Addr)) (fp : List Addr), PTs (X.blk s H scope (compEnvC scope cl C X.env) fp) ifs (TB (cg X) E0 mt))
    (he : ∀ (s : Shared) (H : Hp) (C : Addr) (cl : List (Str × Addr)) (fp : List Addr), PE (X.blk s H scope (compEnvC scope cl C X.env) fp) elt (TM (cg X) E0 me))
    (hs : ∀ x, foldedSetIterable iter X.env x = pure x := by intro _; rfl) : PE X (.ListComp elt [⟨tg, iter, ifs, 0⟩] scope pos) (TC (cg X) E (lcM src T (own.map (·.2)) mt me)) :=
  PE.weak (pe_lc hc hN hi ok hg ht he hs) tlc_of
theorem ms_setLc {i : Nat} {y : Str} {py spos : Pos} (hc : X.calm = true) (hN : X.N.Nodup) (hy : X.N[i]? = some y) (hyl : X.env.scope.names.lookup y = some .local)
    (hsw : swapsWith (.ListComp elt [⟨tg, iter, ifs, 0⟩] scope pos) (some (.Name y py)) spos.line X.env = pure true) (hi : PI X tg iter (TIm (cg X) E src)) (ok : BlkOk X.N X.env.scope scope own)
    (hg : ∀ (s : Shared) (H : Hp) (C : Addr) (cl : List (Str × Addr)) (fp : List Addr), PG (X.blk s H scope (compEnvC scope cl C X.env) fp) tg (gT (cg X) T))
    (ht : ∀ (s : Shared) (H : Hp) (C : Addr) (cl : List (Str × Addr)) (fp : List Addr), PTs (X.blk s H scope (compEnvC scope cl C X.env) fp) ifs (TB (cg X) E0 mt))
    (he : ∀ (s : Shared) (H : Hp) (C : Addr) (cl : List (Str × Addr)) (fp : List Addr), PE (X.blk s H scope (compEnvC scope cl C X.env) fp) elt (TM (cg X) E0 me))
    (k : Cell → M D) (hk : k = frzC ∨ k = boxC)
    (hs : ∀ x, foldedSetIterable iter X.env x = pure x := by intro _; rfl) : PS X (.Assign [.Name y py] (.ListComp elt [⟨tg, iter, ifs, 0⟩] scope pos) spos) (TSm (cg X) E (setM i (bd (lcM src T (own.map (·.2)) mt me) k))) := by
  refine PS.weak (ps_setLc hc hN hy hyl hsw hi ok hg ht he hs) fun Dn σ H ⟨w, S, s, po⟩ => tlc_of σ H _ ⟨w, S, s, ?_⟩
  have po : PoS (cg X) E (((lcM src T (own.map (·.2)) mt me S).bind k).bind fun d S => .ok .nx (S.st i (.val d))) w S σ H Dn := po
  cases e : lcM src T (own.map (·.2)) mt me S with
  | ok y S' =>
    rw [e] at po
    intro w' H' st' s' p hp hc hf' hm
    rcases hk with rfl | rfl
    · cases y with
      | lst xs =>
        obtain ⟨vs, h1, h2⟩ := hc
        have r : Rep (cg X) (w'.add p (.lst vs)) (.lst xs) (.ref p) := by
          simp only [Rep]
          exact ⟨p, vs, rfl, upd_same, Reps.mono (.add hf') _ _ h2⟩
        exact po (w'.add p (.lst vs)) (σ.set i (some (.ref p))) H' ((Step.freeze st' hp hf').trans (Step.setVal ..)) ((s'.freeze h1 hf' hm).setVal r)
      | dK _ => exact po.elim
      | dT _ => exact po.elim
      | ins _ _ => exact po.elim
    · have r : Rep (cg X) (w'.bx p) (.box S'.g.nx) (.ref p) := by
        simp only [Rep]
        refine ⟨?_, ?_⟩
        · show S'.g.nx < w'.n + 1
          rw [s'.n]; exact Nat.lt_succ_self _
        · rw [← s'.n, bx_new]
      exact po (w'.bx p) (σ.set i (some (.ref p))) H' ((Step.box s' st' hp).trans (Step.setVal ..)) ((s'.box hc hf' hm).setVal r)
  | exc C fs S' => rw [e] at po; exact po
  | stuck => rw [e] at po; exact po
theorem mts_nil : PTs X [] (TB (cg X) E yesM) := ⟨fun pins s σ H Q I ⟨w, S, sm, po⟩ => pts_nil.run pins s σ H Q I (po w H (.refl ..) sm)⟩
end
end Mm
end

section
/-! MmG: defs and calls. -/
namespace Mm
open PySem L2
open PyProof.Rows (envOfC)
variable [TabCtx]

abbrev F := List D → M D
def finR : R Fl → R D
  | .ok .nx S => .ok .non ⟨[], S.g⟩
  | .ok (.rt d) S => .ok d ⟨[], S.g⟩
  | .ok .bk _ => .stuck
  | .ok .ct _ => .stuck
  | .exc C fs S => .exc C fs ⟨[], S.g⟩
  | .stuck => .stuck
def slots (n : Nat) (ds : List D) : List Slot := ds.map .val ++ List.replicate (n - ds.length) .emp
/-- a def: n names, the parameters first -/
def runF (n : Nat) (b : M Fl) : F := fun ds S => finR (b ⟨slots n ds, S.g⟩)
def inR {α : Type} (sl : List Slot) : R α → R α
  | .ok d S => .ok d ⟨sl, S.g⟩
  | .exc C fs S => .exc C fs ⟨sl, S.g⟩
  | .stuck => .stuck
def inF (f : M D) : M D := fun S => inR S.sl (f ⟨[], S.g⟩)
def callM (f : F) (ms : M (List D)) : M D := bd ms fun ds => inF (f ds)

section
variable {c : Gm} {w w' : Wd} {S S' : Sg} {σ σ' : FSt} {H H' : Hp} {g : G} {E : XK}
theorem Sim.drop (s : Sim c w S σ H) : Sim c w ⟨[], S.g⟩ [] H where
  n := s.n
  fzz := s.fzz
  cell := s.cell
  inj := s.inj
  len := rfl
  val := fun i d e => by simp at e
  own := fun i x e => by simp at e
  ownInj := fun i j x y p e => by simp at e
  tb := s.tb
theorem mu_drop {a : Addr} (m : Mu w ⟨[], S.g⟩ [] a) : Mu w S σ a := by
  rcases m with m | ⟨i, x, e, _⟩
  · exact .inl m
  · simp at e
theorem slots_own {n : Nat} {ds : List D} {i : Nat} {x : Cell} : (slots n ds)[i]? ≠ some (.own x) := fun e => by
  have m := List.mem_of_getElem? e
  unfold slots at m
  rcases List.mem_append.mp m with m | m
  · obtain ⟨d, _, e⟩ := List.mem_map.mp m; cases e
  · have := (List.mem_replicate.mp m).2; cases this
theorem mu_slots {n : Nat} {ds : List D} {a : Addr} (m : Mu w ⟨slots n ds, g⟩ σ a) : Mu w ⟨[], g⟩ [] a := by
  rcases m with m | ⟨i, x, e, _⟩
  · exact .inl m
  · exact absurd e slots_own
/-- the frame of a def at its begin -/
theorem Sim.enter (s : Sim c w ⟨[], g⟩ [] H) {N : List Str} {ds : List D} {vs : List V} (r : Reps c w ds vs) : Sim c w ⟨slots N.length ds, g⟩ (L2.start N vs) H where
  n := s.n
  fzz := s.fzz
  cell := s.cell
  inj := s.inj
  len := by
    show (slots N.length ds).length = _
    unfold slots L2.start
    rw [List.length_append, List.length_append, List.length_map, List.length_map, List.length_replicate, List.length_replicate, r.length]
  val := fun i d e => by
    have e : (slots N.length ds)[i]? = some (.val d) := e
    unfold slots at e
    by_cases hi : i < ds.length
    · rw [List.getElem?_append_left (by simpa using hi), List.getElem?_map] at e
      cases e2 : ds[i]? with
      | none => rw [e2] at e; cases e
      | some y =>
        rw [e2] at e
        cases e
        obtain ⟨v, h1, h2⟩ := r.get e2
        refine ⟨v, ?_, h2⟩
        show (L2.start N vs)[i]? = _
        unfold L2.start
        rw [List.getElem?_append_left (by simpa [← r.length] using hi), List.getElem?_map, h1]
        rfl
    · rw [List.getElem?_append_right (by simpa using hi), List.getElem?_replicate] at e
      split at e <;> cases e
  own := fun i x e => absurd e slots_own
  ownInj := fun i j x y p e => absurd e slots_own
  tb := s.tb
theorem Step.enter {n : Nat} {ds : List D} : Step w ⟨[], g⟩ [] H w ⟨slots n ds, g⟩ σ H := ⟨.refl w, fun a o h1 _ h2 h3 => ⟨h1, h2, fun m => h3 (mu_slots m)⟩, fun _ h => h⟩
theorem Step.drop : Step w S σ H w ⟨[], S.g⟩ [] H := ⟨.refl w, fun a o h1 _ h2 h3 => ⟨h1, h2, fun m => h3 (mu_drop m)⟩, fun _ h => h⟩
/-- behind a call: the caller's frame again -/
theorem Sim.back (s : Sim c w S σ H) (st : Step w ⟨[], S.g⟩ [] H w' ⟨[], g⟩ [] H') (s' : Sim c w' ⟨[], g⟩ [] H') : Sim c w' ⟨S.sl, g⟩ σ H' where
  n := s'.n
  fzz := s'.fzz
  cell := s'.cell
  inj := s'.inj
  len := s.len
  val := fun i d e => by
    obtain ⟨v, h1, h2⟩ := s.val i d e
    exact ⟨v, h1, Rep.mono st.le _ _ h2⟩
  own := fun i x e => by
    obtain ⟨p, k1, k2, k3, k4⟩ := s.own i x e
    obtain ⟨o, ho⟩ := k2.there
    obtain ⟨q1, q2, q3⟩ := st.keep p o ho (k2.nt o ho).1 k3 fun m => by
      rcases m with ⟨r, y, e1, e2⟩ | ⟨j, y, e1, _⟩
      · exact k4 r y e1 e2
      · simp at e1
    exact ⟨p, k1, k2.mono st.le (q1.trans ho.symm), q2, fun r y e1 e2 => q3 (.inl ⟨r, y, e1, e2⟩)⟩
  ownInj := s.ownInj
  tb := s'.tb
theorem Step.back (s : Sim c w S σ H) (st : Step w ⟨[], S.g⟩ [] H w' ⟨[], g⟩ [] H') : Step w S σ H w' ⟨S.sl, g⟩ σ H' :=
  ⟨st.le, fun a o h1 n h2 h3 => by
    obtain ⟨q1, q2, q3⟩ := st.keep a o h1 n h2 fun m => h3 (mu_drop m)
    refine ⟨q1, q2, fun m => ?_⟩
    rcases m with m | ⟨i, x, e, k⟩
    · exact q3 (.inl m)
    · exact h3 (.inr ⟨i, x, e, k⟩), st.th⟩
end

/-- a def's promise: what f says -/
def spM (c : Gm) (n : Nat) (f : F) : Sp := fun vs H Q E => vs.length = n ∧ ∃ w g ds, Sim c w ⟨[], g⟩ [] H ∧ Reps c w ds vs ∧ Po c E (f ds ⟨[], g⟩) w ⟨[], g⟩ [] H (KD c Q)
/-- a def's run never leaves slots behind -/
def Flat (f : F) : Prop := ∀ ds g, match f ds ⟨[], g⟩ with | .ok _ S => S.sl = [] | .exc _ _ S => S.sl = [] | .stuck => True
theorem flat_runF {n : Nat} {b : M Fl} : Flat (runF n b) := fun ds g => by
  unfold runF
  cases b ⟨slots n ds, (⟨[], g⟩ : Sg).g⟩ with
  | ok f S => cases f <;> simp [finR]
  | exc C fs S => simp [finR]
  | stuck => simp [finR]

/-- a def that may be called by its name: its text, its parameters, its mirror -/
structure FnM (P : Program) (w : World) (K : PySem.W.Frag) (mg : Str → Option Value) (base : Heap) (k : Nat) (x : Str) (st : Stmt) (ps : List Str) (f : F) : Prop where
  flat : Flat f
  ex : ∃ (fa : Addr) (fd : FuncData), FnOk P w K mg base (L2.CX P w) k fa fd ps (spM (gmOf K mg) ps.length f) ∧ mg x = some (.ref fa) ∧ PySem.W.keepIn K (.ref fa) = true ∧ Binds K fd ps [] ∧ Fun K x x st fa fd
theorem FnM.mono {P : Program} {w : World} {K : PySem.W.Frag} {mg : Str → Option Value} {base : Heap} {j k : Nat} {x : Str} {st : Stmt} {ps : List Str} {f : F} (h : FnM P w K mg base j x st ps f) (l : j ≤ k) : FnM P w K mg base k x st ps f := by
  obtain ⟨fa, fd, h1, h2⟩ := h.ex
  exact ⟨h.flat, fa, fd, h1.mono l, h2⟩
/-- how many arguments stand there -/
def ArgN (n : Nat) (m : M (List D)) : Prop := ∀ S ds S', m S = .ok ds S' → ds.length = n
theorem argN_nil : ArgN 0 nilM := fun S ds S' e => by cases e; rfl
theorem argN_cons {n : Nat} {m : M D} {ms : M (List D)} (h : ArgN n ms) : ArgN (n + 1) (consM m ms) := fun S ds S' e => by
  unfold consM bd at e
  cases e1 : m S with
  | ok d S1 =>
    rw [e1] at e
    have e : (ms S1).bind (fun ds => ret (d :: ds)) = .ok ds S' := e
    cases e2 : ms S1 with
    | ok ds2 S2 =>
      rw [e2] at e
      cases e
      rw [List.length_cons, h _ _ _ e2]
    | exc _ _ _ => rw [e2] at e; cases e
    | stuck => rw [e2] at e; cases e
  | exc _ _ _ => rw [e1] at e; cases e
  | stuck => rw [e1] at e; cases e
theorem tcall_of {c : Gm} {E : XK} {n : Nat} {f : F} {ms : M (List D)} (hf : Flat f) (hn : ArgN n ms) : ∀ σ H Q, TM c E (callM f ms) σ H Q → tCall (spM c n f) [] E (TL c E ms) σ H Q := by
  rintro σ H Q ⟨w, S, s, po⟩
  refine ⟨w, S, s, ?_⟩
  have po : Po c E ((ms S).bind fun ds => inF (f ds)) w S σ H (KD c Q) := po
  cases em : ms S with
  | exc C fs S' => rw [em] at po; exact po
  | stuck => rw [em] at po; exact po
  | ok ds S1 =>
    rw [em] at po
    intro w1 H1 st1 s1 vs r
    have po1 : Po c E (inF (f ds) S1) w1 S1 σ H1 (KD c Q) := Po.rebase st1 po
    rw [List.append_nil]
    refine ⟨by rw [← r.length]; exact hn _ _ _ em, w1, S1.g, ds, s1.drop, r, ?_⟩
    unfold inF at po1
    have fl := hf ds S1.g
    cases e : f ds ⟨[], S1.g⟩ with
    | ok d S2 =>
      rw [e] at po1 fl
      obtain ⟨sl2, g2⟩ := S2
      obtain rfl : sl2 = [] := fl
      intro w2 H2 st2 s2 v rv
      exact po1 w2 H2 (Step.back s1 st2) (s1.back st2 s2) v rv
    | exc C fs S2 =>
      rw [e] at po1 fl
      obtain ⟨sl2, g2⟩ := S2
      obtain rfl : sl2 = [] := fl
      intro w2 σ2 H2 Ca dx ys st2 s2 hC hd hy hr
      have st2 : Step w1 ⟨[], S1.g⟩ [] H1 w2 ⟨[], g2⟩ [] H2 := st2.trans (Step.drop (σ := σ2))
      have s2' : Sim c w2 ⟨[], g2⟩ [] H2 := s2.drop
      exact po1 w2 σ H2 Ca dx ys (Step.back s1 st2) (s1.back st2 s2') hC hd hy hr
    | stuck => rw [e] at po1; exact po1
section
variable {X : Cx} {E : XK} {k j n : Nat} {x : Str} {st : Stmt} {ps : List Str} {f : F} {p pos : Pos} {e : Expr} {es : List Expr} {ms : M (List D)}
theorem me_call (c : FnM X.prog X.w X.K X.mg X.base k x st ps f) (hr : Room j X.A) (hk : k ≤ j) (hx : Passes (L2.CX X.prog X.w) X E) (hg : Gl X x) (ha : PA X (e :: es) (TL (cg X) E ms)) (hn : ArgN n ms) (hl : ps.length = n := by rfl)
    (hdb : (x == ("__debug__" : Str)) = false := by decide) (he : starEach (e :: es) X.env = (false, eval e X.env) :: starEach es X.env := by rfl) (hpl : (backTo pos (starEach es X.env)).any (·.1) = false := by rfl) :
    PE X (.Call (.Name x p) (e :: es) [] pos) (TM (cg X) E (callM f ms)) := by
  obtain ⟨fa, fd, F, hm, kp, b, _⟩ := c.ex
  subst hl
  exact PE.weak (pe_call F (hr.mono hk) hg hm kp b .nil hx ha hdb he hpl) (tcall_of c.flat hn)
end

/-- THE RULE for a def: its body's mirror -/
theorem fnM_ok {P : Program} {w : World} {K : PySem.W.Frag} {mg : Str → Option Value} {base : Heap} {x qual : Str} {st : Stmt} {fa : Addr} {fd : FuncData} {N ps : List Str} {k : Nat} {b : M Fl} (F : Fun K x qual st fa fd) (S : FnScope N ps (defScope st))
    (hbody : ∀ (cdv : Value) (A : Around) (outer : List Env) (s : Shared) (H : Hp) (E : XK), Room k (A.deeper (envOfC qual (defScope st) s.heap.objs.size fa cdv)) →
      PSs (cxOf (L2.CX P w) P w K mg base N qual (defScope st) fa cdv A outer s H E) (defBody st) (TSm (gmOf K mg) E b)) :
    FnOk P w K mg base (L2.CX P w) (k + 1) fa fd ps (spM (gmOf K mg) ps.length (runF N.length b)) := by
  refine F.okX S (fun vs H Q E h => h.1) (fun cdv A outer s H vs Q E hr h => ⟨_, hbody cdv A outer s H E hr, ?_⟩)
  obtain ⟨hl, wd, g, ds, sm, r, po⟩ := h
  refine ⟨wd, ⟨slots N.length ds, g⟩, sm.enter r, ?_⟩
  have st0 : Step wd ⟨[], g⟩ [] H wd ⟨slots N.length ds, g⟩ (L2.start N vs) H := Step.enter
  unfold runF at po
  have po : Po (gmOf K mg) E (finR (b ⟨slots N.length ds, g⟩)) wd ⟨[], g⟩ [] H (KD (gmOf K mg) Q) := po
  cases e : b ⟨slots N.length ds, g⟩ with
  | ok f S1 =>
    rw [e] at po
    intro w1 σ1 H1 st1 s1
    have st2 := (st0.trans st1).trans Step.drop
    cases f with
    | nx => exact po w1 H1 st2 s1.drop .non (by simp only [Rep])
    | rt d => intro v rv; exact po w1 H1 st2 s1.drop v rv
    | bk => exact po.elim
    | ct => exact po.elim
  | exc C fs S1 =>
    rw [e] at po
    intro w1 σ1 H1 Ca dx ys st1 s1 hC hd hy hr
    exact po w1 [] H1 Ca dx ys ((st0.trans st1).trans Step.drop) s1.drop hC hd hy hr
  | stuck => rw [e] at po; exact po
theorem FnM.of {P : Program} {w : World} {K : PySem.W.Frag} {mg : Str → Option Value} {base : Heap} {x : Str} {st : Stmt} {fa : Addr} {fd : FuncData} {ps : List Str} {k N : Nat} {b : M Fl} (h : FnOk P w K mg base (L2.CX P w) k fa fd ps (spM (gmOf K mg) ps.length (runF N b)))
    (hm : mg x = some (.ref fa)) (hb : Binds K fd ps []) (F : Fun K x x st fa fd) : FnM P w K mg base k x st ps (runF N b) := ⟨flat_runF, fa, fd, h, hm, F.kp, hb, F⟩
/-- a def of the module with its mirror -/
theorem fnM {P : Program} {w : World} {K : PySem.W.Frag} {mg : Str → Option Value} {base : Heap} {x : Str} {st : Stmt} {fa : Addr} {fd : FuncData} {N ps : List Str} {k : Nat} {b : M Fl} (F : Fun K x x st fa fd) (hm : mg x = some (.ref fa)) (hb : Binds K fd ps []) (S : FnScope N ps (defScope st))
    (hbody : ∀ (cdv : Value) (A : Around) (outer : List Env) (s : Shared) (H : Hp) (E : XK), Room k (A.deeper (envOfC x (defScope st) s.heap.objs.size fa cdv)) →
      PSs (cxOf (L2.CX P w) P w K mg base N x (defScope st) fa cdv A outer s H E) (defBody st) (TSm (gmOf K mg) E b)) : FnM P w K mg base (k + 1) x st ps (runF N.length b) := FnM.of (fnM_ok F S hbody) hm hb F
/-- within a def's body an exception goes on to its caller -/
theorem passD {P : Program} {w : World} {K : PySem.W.Frag} {mg : Str → Option Value} {base : Heap} {N : List Str} {qual : Str} {sc : Scope} {f : Addr} {cd : Value} {A : Around} {outer : List Env} {s : Shared} {H : Hp} {E : XK} :
    Passes (L2.CX P w) (cxOf (L2.CX P w) P w K mg base N qual sc f cd A outer s H E) E := passes_call (takes_of rfl rfl rfl rfl) fun _ _ _ _ h => h
theorem ownsD {P : Program} {w : World} {K : PySem.W.Frag} {mg : Str → Option Value} {base : Heap} {N : List Str} {qual : Str} {sc : Scope} {f : Addr} {cd : Value} {A : Around} {outer : List Env} {s : Shared} {H : Hp} {E : XK} :
    PassesOwn (model P w) (cxOf (L2.CX P w) P w K mg base N qual sc f cd A outer s H E).A (cxOf (L2.CX P w) P w K mg base N qual sc f cd A outer s H E).env (cxOf (L2.CX P w) P w K mg base N qual sc f cd A outer s H E).xe := passes_of rfl
end Mm
end

section
/-! MmH: what changes in place: lists, dicts; names side by side. -/
namespace Mm
open PySem L2
open PyProof.Rows (envOfC)
variable [TabCtx]

/-! ### an own object becomes a box -/
def rdB (i : Nat) : M D := fun S => match S.sl[i]? with
  | some (.own x) => .ok (.box S.g.nx) ((S.st i (.val (.box S.g.nx))).up (S.g.add x))
  | some (.val (.box r)) => .ok (.box r) S
  | _ => .stuck
section
variable {c : Gm} {w : Wd} {S : Sg} {σ : FSt} {H : Hp}
theorem Sim.emp (s : Sim c w S σ H) (i : Nat) : Sim c w (S.st i .emp) σ H where
  n := s.n
  fzz := s.fzz
  cell := s.cell
  inj := s.inj
  len := by show (S.sl.set i _).length = σ.length; rw [List.length_set]; exact s.len
  val := fun j d e => by
    rcases set_get e with ⟨e1, e2⟩ | ⟨e1, e2⟩
    · cases e2
    · exact s.val j d e2
  own := fun j x e => by
    rcases set_get e with ⟨e1, e2⟩ | ⟨e1, e2⟩
    · cases e2
    · exact s.own j x e2
  ownInj := fun j j' x y p e e' k k' => by
    rcases set_get e with ⟨e1, e2⟩ | ⟨e1, e2⟩
    · cases e2
    · rcases set_get e' with ⟨e1', e2'⟩ | ⟨e1', e2'⟩
      · cases e2'
      · exact s.ownInj j j' x y p e2 e2' k k'
  tb := s.tb
theorem mu_emp {i : Nat} {a : Addr} (m : Mu w (S.st i .emp) σ a) : Mu w S σ a := by
  rcases m with m | ⟨j, x, e, k⟩
  · exact .inl m
  · rcases set_get e with ⟨e1, e2⟩ | ⟨e1, e2⟩
    · cases e2
    · exact .inr ⟨j, x, e2, k⟩
theorem mu_emp_not (s : Sim c w S σ H) {i : Nat} {x : Cell} {p : Addr} (h : S.sl[i]? = some (.own x)) (hp : slotV σ i (.ref p)) : ¬ Mu w (S.st i .emp) σ p := by
  rintro (⟨r, y, e, z⟩ | ⟨j, y, e, z⟩)
  · obtain ⟨q, k1, k2, k3, k4⟩ := s.own i x h
    have e2 : some (some (V.ref q)) = some (some (V.ref p)) := k1.symm.trans hp
    cases e2
    exact k4 r y e z
  · rcases set_get e with ⟨e1, e2⟩ | ⟨e1, e2⟩
    · cases e2
    · exact e1 (s.ownInj j i y x p e2 h z hp)
theorem set_self {i : Nat} {v : V} (h : slotV σ i v) : σ.set i (some v) = σ := by
  refine List.ext_getElem? fun j => ?_
  by_cases e : j = i
  · subst e
    have hi := (List.getElem?_eq_some_iff.mp h).1
    rw [List.getElem?_set_self hi]; exact h.symm
  · rw [List.getElem?_set_ne (Ne.symm e)]
theorem Sim.boxOwn (s : Sim c w S σ H) {i : Nat} {x : Cell} {p : Addr} (h : S.sl[i]? = some (.own x)) (hp : slotV σ i (.ref p)) (hc : CellR c w H p x) (hf : w.Hf p = none) :
    Sim c (w.bx p) ((S.st i (.val (.box S.g.nx))).up (S.g.add x)) σ H ∧ Step w S σ H (w.bx p) ((S.st i (.val (.box S.g.nx))).up (S.g.add x)) σ H := by
  have s1 := (s.emp i).box hc hf (mu_emp_not s h hp)
  have r : Rep c (w.bx p) (.box S.g.nx) (.ref p) := by
    simp only [Rep]
    refine ⟨?_, ?_⟩
    · show S.g.nx < w.n + 1
      rw [s.n]; exact Nat.lt_succ_self _
    · rw [← s.n, bx_new]
  have s2 := s1.setVal (i := i) (d := .box S.g.nx) r
  rw [set_self hp] at s2
  have e : ((S.st i .emp).up ((S.st i .emp).g.add x)).st i (.val (.box S.g.nx)) = (S.st i (.val (.box S.g.nx))).up (S.g.add x) := by
    show (⟨(S.sl.set i .emp).set i (.val (.box S.g.nx)), S.g.add x⟩ : Sg) = ⟨S.sl.set i (.val (.box S.g.nx)), S.g.add x⟩
    rw [List.set_set]
  rw [e] at s2
  refine ⟨s2, .bx, fun a o h1 _ h2 h3 => ⟨h1, h2, fun m => ?_⟩, fun _ h => h⟩
  have hpa : a ≠ p := fun z => h3 (.inr ⟨i, x, h, by rw [z]; exact hp⟩)
  rcases m with m | ⟨j, y, e1, k⟩
  · have m2 : Mu (w.bx p) ((S.st i .emp).up ((S.st i .emp).g.add x)) σ a := .inl m
    rcases mu_bx (s.emp i) m2 with z | z
    · exact hpa z
    · exact h3 (mu_emp z)
  · rcases set_get e1 with ⟨_, e2⟩ | ⟨_, e2⟩
    · cases e2
    · exact h3 (.inr ⟨j, y, e2, k⟩)
end
section
variable {X : Cx} {E : XK} {pos : Pos}
theorem me_varB (i : Nat) {x : Str} (hN : X.N[i]? = some x := by rfl) (hv : Vis X.env.scope x := by first | exact Or.inl rfl | exact Or.inr (Or.inl rfl) | exact Or.inr (Or.inr rfl)) (hd : (x == ("__debug__" : Str)) = false := by decide)
    (hcd : (x == ("__classdict__" : Str)) = false := by decide) : PE X (.Name x pos) (TM (cg X) E (rdB i)) := by
  refine PE.weak (pe_var hN hv hd hcd) fun σ H Q ⟨w, S, s, po⟩ => ?_
  unfold rdB at po
  split at po
  · rename_i x hx
    obtain ⟨p, k1, k2, k3, k4⟩ := s.own i _ hx
    obtain ⟨s2, st2⟩ := s.boxOwn hx k1 k2 k3
    refine ⟨.ref p, k1, po _ H st2 s2 _ ?_⟩
    simp only [Rep]
    refine ⟨?_, ?_⟩
    · show S.g.nx < w.n + 1
      rw [s.n]; exact Nat.lt_succ_self _
    · rw [← s.n, bx_new]
  · rename_i r hd
    obtain ⟨v, h1, h2⟩ := s.val i _ hd
    exact ⟨v, h1, po w H (.refl ..) s v h2⟩
  · exact po.elim
end

/-! ### methods of lists that change them -/
def chkL (p : Pl) : M Unit := fun S => match getP p S with | some (.lst _) => .ok () S | _ => .stuck
def mutL (f : List D → List D → Option (D × List D)) (p : Pl) (as : List D) : M D := fun S => match getP p S with
  | some (.lst xs) => match f as xs with
    | some (d, ys) => .ok d (putP p (.lst ys) S)
    | none => .stuck
  | _ => .stuck
def mutM (f : List D → List D → Option (D × List D)) (P : M Pl) (ms : M (List D)) : M D := bd P fun p => bd (chkL p) fun _ => bd ms fun as => mutL f p as
/-- f on values is what r asks -/
def MutOk (c : Gm) (r : V → List V → Hp → VK → Prop) (f : List D → List D → Option (D × List D)) : Prop :=
  ∀ (w : Wd) (H : Hp) (l : Addr) (vs us : List V) (xs as ys : List D) (d : D) (Q : VK), H l = some (.lst vs) → Reps c w xs vs → Reps c w as us → f as xs = some (d, ys) →
    (∀ v vs', Reps c w ys vs' → Rep c w d v → Q v (upd H l (.lst vs'))) → r (.ref l) us H Q
theorem tmut_of {c : Gm} {E : XK} {K : PySem.W.Frag} {r : V → List V → Hp → VK → Prop} {f : List D → List D → Option (D × List D)} (hf : MutOk c r f) {P : M Pl} {ms : M (List D)} :
    ∀ σ H Q, TM c E (mutM f P ms) σ H Q → tBM K "list" r (TP c E P) (TL c E ms) σ H Q := by
  rintro σ H Q ⟨w, S, s, po⟩
  refine ⟨w, S, s, Po.two (k := fun p => bd (chkL p) fun _ => bd ms fun as => mutL f p as) po fun p w1 S1 H1 st1 s1 po1 a pa => ?_⟩
  have po1 : Po c E (R.bind (chkL p S1) fun _ => bd ms fun as => mutL f p as) w1 S1 σ H1 (KD c Q) := po1
  unfold chkL at po1
  cases eg : getP p S1 with
  | none => rw [eg] at po1; exact po1.elim
  | some x =>
    rw [eg] at po1
    cases x with
    | lst xs =>
      obtain ⟨⟨vs, h1, h2⟩, h3⟩ := s1.getP pa eg
      refine ⟨.inl ⟨rfl, vs, .inl (.inl h1)⟩, w1, S1, s1, ?_⟩
      refine Po.two (k := fun as => mutL f p as) po1 fun as w2 S2 H2 st2 s2 po2 us ru => ?_
      have pa2 : PlAt w2 σ a p := pa.mono st2.le
      unfold mutL at po2
      cases eg2 : getP p S2 with
      | none => rw [eg2] at po2; exact po2.elim
      | some x2 =>
        rw [eg2] at po2
        cases x2 with
        | lst xs2 =>
          obtain ⟨⟨vs2, k1, k2⟩, k3⟩ := s2.getP pa2 eg2
          cases ef : f as xs2 with
          | none => simp only [ef] at po2; exact po2.elim
          | some q =>
            obtain ⟨d, ys⟩ := q
            simp only [ef] at po2
            refine hf w2 H2 a vs2 us xs2 as ys d Q k1 k2 ru ef fun v vs' r1 r2 => ?_
            exact po2 w2 (upd H2 a (.lst vs')) (Step.putP s2 .lst pa2 eg2) (s2.putP pa2 eg2 ⟨vs', upd_same, r1⟩) v r2
        | dK _ => exact po2.elim
        | dT _ => exact po2.elim
        | ins _ _ => exact po2.elim
    | dK _ => exact po1.elim
    | dT _ => exact po1.elim
    | ins _ _ => exact po1.elim
def appF : List D → List D → Option (D × List D)
  | [d], xs => if xs.length < sizeLine then some (.non, xs ++ [d]) else none
  | _, _ => none
def popF : List D → List D → Option (D × List D)
  | [], xs => match xs[xs.length - 1]? with | some d => some (d, xs.dropLast) | none => none
  | _, _ => none
def popAtF : List D → List D → Option (D × List D)
  | [.int i], xs => if -(2 ^ 63) ≤ i ∧ i < 2 ^ 63 then (match seqIndex? i xs.length with
    | some k => match xs[k]? with | some d => some (d, xs.eraseIdx k) | none => none
    | none => none) else none
  | _, _ => none
def revF : List D → List D → Option (D × List D)
  | [], xs => some (.non, xs.reverse)
  | _, _ => none
def clrF : List D → List D → Option (D × List D)
  | [], _ => some (.non, [])
  | _, _ => none
section
variable {c : Gm}
theorem rep_non {w : Wd} : Rep c w .non .non := by simp only [Rep]
theorem mut_app : MutOk c rAppend appF := fun w H l vs us xs as ys d Q h1 h2 h3 h4 q => by
  cases as with
  | nil => cases h4
  | cons a t =>
    cases t with
    | cons _ _ => cases h4
    | nil =>
      obtain ⟨v, t, rfl, r1, r2⟩ := reps_cons.mp h3
      cases reps_nil.mp r2
      have h4 : (if xs.length < sizeLine then some (D.non, xs ++ [a]) else none) = some (d, ys) := h4
      by_cases z : xs.length < sizeLine
      · rw [if_pos z] at h4; cases h4
        exact ⟨l, vs, v, rfl, rfl, h1, by rw [← h2.length]; exact z, q _ _ (h2.snoc r1) rep_non⟩
      · rw [if_neg z] at h4; cases h4
theorem mut_popAt : MutOk c rPopAt popAtF := fun w H l vs us xs as ys d Q h1 h2 h3 h4 q => by
  cases as with
  | nil => cases h4
  | cons a t =>
    cases t with
    | cons _ _ => cases a <;> cases h4
    | nil =>
      obtain ⟨v, t, rfl, r1, r2⟩ := reps_cons.mp h3
      cases reps_nil.mp r2
      cases a with
      | int i =>
        have h4 : (if -(2 ^ 63) ≤ i ∧ i < 2 ^ 63 then (match seqIndex? i xs.length with
          | some k => match xs[k]? with | some d => some (d, xs.eraseIdx k) | none => none
          | none => none) else none) = some (d, ys) := h4
        by_cases z : -(2 ^ 63) ≤ i ∧ i < 2 ^ 63
        · rw [if_pos z] at h4
          cases e1 : seqIndex? i xs.length with
          | none => rw [e1] at h4; cases h4
          | some k =>
            rw [e1] at h4
            cases e2 : xs[k]? with
            | none => simp only [e2] at h4; cases h4
            | some y =>
              simp only [e2] at h4; cases h4
              obtain ⟨u, hu, ru⟩ := h2.get e2
              exact ⟨l, vs, i, k, u, rfl, by rw [rep_int r1], h1, z.1, z.2, by rw [← h2.length]; exact e1, hu, q _ _ (h2.eraseIdx k) ru⟩
        · rw [if_neg z] at h4; cases h4
      | _ => cases h4
end
section
variable {X : Cx} {E : XK} {apos cpos pos : Pos} {o e : Expr} {es : List Expr} {P : M Pl} {m : M D} {ms : M (List D)}
theorem me_append (ho : PE X o (TP (cg X) E P)) (ha : PE X e (TM (cg X) E m)) (hbase : attributeBase o "append" X.env (eval o X.env) = eval o X.env := by rfl)
    (hfew : ((backTo cpos (starEach [e] X.env)).all (fun x => !x.1) && (backToKw cpos (keywordEach [] X.env)).all (fun x => x.1.isSome)
      && decide ([e].length + ([] : List Keyword).length + (if ([] : List Keyword).isEmpty then 0 else 1) < 30)) = true := by rfl)
    (hline : (apos.endLine == cpos.line) = true := by rfl) (hs : starEach [e] X.env = (false, eval e X.env) :: starEach [] X.env := by rfl) :
    PE X (.Call (.Attribute o "append" apos) [e] [] cpos) (TM (cg X) E (mutM appF P (consM m nilM))) :=
  PE.weak (pe_bm PySem.F.plainAttrs_list PySem.F.slot_list_append PySem.F.type_list_append mt_append ho (ml_cons ha ml_nil hs) hbase hfew hline hs) (tmut_of mut_app)
theorem me_popAt (ho : PE X o (TP (cg X) E P)) (ha : PE X e (TM (cg X) E m)) (hbase : attributeBase o "pop" X.env (eval o X.env) = eval o X.env := by rfl)
    (hfew : ((backTo cpos (starEach [e] X.env)).all (fun x => !x.1) && (backToKw cpos (keywordEach [] X.env)).all (fun x => x.1.isSome)
      && decide ([e].length + ([] : List Keyword).length + (if ([] : List Keyword).isEmpty then 0 else 1) < 30)) = true := by rfl)
    (hline : (apos.endLine == cpos.line) = true := by rfl) (hs : starEach [e] X.env = (false, eval e X.env) :: starEach [] X.env := by rfl) :
    PE X (.Call (.Attribute o "pop" apos) [e] [] cpos) (TM (cg X) E (mutM popAtF P (consM m nilM))) :=
  PE.weak (pe_bm PySem.F.plainAttrs_list PySem.F.slot_list_pop PySem.F.type_list_pop mt_popAt ho (ml_cons ha ml_nil hs) hbase hfew hline hs) (tmut_of mut_popAt)
/-! ### extend: by what stands in a list then -/
def extM (P : M Pl) (h : M Hd) : M D := bd P fun p => bd (chkL p) fun _ => bd h fun y => bd (see y) fun v S => match getP p S with
  | some (.lst xs) => if v.1 = true ∧ xs.length + v.2.length ≤ sizeLine then .ok .non (putP p (.lst (xs ++ v.2)) S) else .stuck
  | _ => .stuck
/-! ### l.index(x) -/
def indexD (v : Vw) (d : D) : M D := if v.1 = true then (match pyD d, pyDs v.2 with
  | some p, some ps => if SeqAt.shaped p = true ∧ SeqAt.shaped (.list ps) = true then (match ps.findIdx? fun z => PyData.eqv z p with
    | some j => ret (.int (j : Nat))
    | none => nope) else nope
  | _, _ => nope) else nope
def indexM (h : M Hd) (m : M D) : M D := bd h fun x => bd (see x) fun u => if u.1 = true then bd m fun d => bd (see x) fun v => indexD v d else nope
end
end Mm
end

section
/-! MmI: items set, changed by an operator; dicts; names side by side. -/
namespace Mm
open PySem L2
open PyProof.Rows (envOfC)
variable [TabCtx]

/-! ### tables -/
section
variable {κ α : Type} [DecidableEq κ]
def valA (kvs : List (κ × α)) (k : κ) : Option α := (kvs.find? fun kv => decide (kv.1 = k)).map (·.2)
def putA (kvs : List (κ × α)) (k : κ) (v : α) : List (κ × α) :=
  if (kvs.any fun kv => decide (kv.1 = k)) = true then kvs.map (fun kv => if kv.1 = k then (kv.1, v) else kv) else kvs ++ [(k, v)]
end
def TabR (c : Gm) (w : Wd) {κ : Type} (kvs : List (κ × D)) (ys : List (κ × V)) : Prop := ys.map (·.1) = kvs.map (·.1) ∧ Reps c w (kvs.map (·.2)) (ys.map (·.2))
section
variable {c : Gm} {w : Wd} {κ : Type}
theorem tab_nil : TabR c w ([] : List (κ × D)) [] := ⟨rfl, .nil⟩
theorem tab_cons {k : κ} {d : D} {v : V} {kvs : List (κ × D)} {ys : List (κ × V)} (h : Rep c w d v) (t : TabR c w kvs ys) : TabR c w ((k, d) :: kvs) ((k, v) :: ys) :=
  ⟨by rw [List.map_cons, List.map_cons, t.1], by rw [List.map_cons, List.map_cons]; exact .cons h t.2⟩
theorem tab_inv {kvs : List (κ × D)} {p : κ × D} {ys : List (κ × V)} (h : TabR c w (p :: kvs) ys) : ∃ v r, ys = (p.1, v) :: r ∧ Rep c w p.2 v ∧ TabR c w kvs r := by
  obtain ⟨h1, h2⟩ := h
  cases ys with
  | nil => cases h1
  | cons y r =>
    obtain ⟨k, v⟩ := y
    rw [List.map_cons, List.map_cons] at h1 h2
    injection h1 with e1 e2
    obtain ⟨v', r', e3, q1, q2⟩ := reps_cons.mp h2
    injection e3 with e4 e5
    have e1 : k = p.1 := e1
    subst e1
    have e4 : v = v' := e4
    subst e4
    exact ⟨v, r, rfl, q1, e2, by rw [e5]; exact q2⟩
theorem tab_len : ∀ {kvs : List (κ × D)} {ys : List (κ × V)}, TabR c w kvs ys → kvs.length = ys.length := fun h => by
  have := congrArg List.length h.1
  simpa using this.symm
theorem tab_app : ∀ {kvs kvs' : List (κ × D)} {ys ys' : List (κ × V)}, TabR c w kvs ys → TabR c w kvs' ys' → TabR c w (kvs ++ kvs') (ys ++ ys') := fun h h' =>
  ⟨by rw [List.map_append, List.map_append, h.1, h'.1], by rw [List.map_append, List.map_append]; exact h.2.append h'.2⟩
variable [DecidableEq κ]
theorem tab_any : ∀ {kvs : List (κ × D)} {ys : List (κ × V)} {k : κ}, TabR c w kvs ys → (ys.any fun kv => decide (kv.1 = k)) = kvs.any fun kv => decide (kv.1 = k)
  | [], ys, k, h => by
    have : ys = [] := by have := h.1; simpa using this
    subst this; rfl
  | p :: kvs, ys, k, h => by
    obtain ⟨v, r, rfl, h1, h2⟩ := tab_inv h
    rw [List.any_cons, List.any_cons, tab_any h2]
theorem tab_map {d : D} {v : V} {k : κ} (q : Rep c w d v) : ∀ {kvs : List (κ × D)} {ys : List (κ × V)}, TabR c w kvs ys → TabR c w (kvs.map fun kv => if kv.1 = k then (kv.1, d) else kv) (ys.map fun kv => if kv.1 = k then (kv.1, v) else kv)
  | [], ys, h => by
    have : ys = [] := by have := h.1; simpa using this
    subst this; exact tab_nil
  | p :: kvs, ys, h => by
    obtain ⟨u, r, rfl, h1, h2⟩ := tab_inv h
    rw [List.map_cons, List.map_cons]
    by_cases e : p.1 = k
    · rw [if_pos e, if_pos (show ((p.1, u) : κ × V).1 = k from e)]
      exact tab_cons q (tab_map q h2)
    · rw [if_neg e, if_neg (show ¬ ((p.1, u) : κ × V).1 = k from e)]
      exact tab_cons h1 (tab_map q h2)
theorem tab_put {d : D} {v : V} {k : κ} {kvs : List (κ × D)} {ys : List (κ × V)} (h : TabR c w kvs ys) (q : Rep c w d v) : TabR c w (putA kvs k d) (putK ys k v) := by
  unfold putA putK
  rw [tab_any h]
  by_cases e : (kvs.any fun kv => decide (kv.1 = k)) = true
  · rw [if_pos e, if_pos e]; exact tab_map q h
  · rw [if_neg e, if_neg e]; exact tab_app h (tab_cons q tab_nil)
end
def keyD : D → Option Key
  | .int i => some (.inl i)
  | .str x => some (.inr x)
  | _ => none
def keyDs : List D → Option (List Key)
  | [] => some []
  | d :: ds => match keyD d, keyDs ds with
    | some k, some ks => some (k :: ks)
    | _, _ => none
def keysD : D → Option (List Key)
  | .tup ds => keyDs ds
  | _ => none
section
variable {c : Gm} {w : Wd} {S : Sg} {σ : FSt} {H : Hp}
theorem keyD_of {d : D} {v : V} {k : Key} (r : Rep c w d v) (e : keyD d = some k) : v = kV k := by
  cases d with
  | int i => cases e; rw [rep_int r]; rfl
  | str x => cases e; simp only [Rep] at r; rw [r]; rfl
  | _ => cases e
theorem keyDs_of : ∀ {ds : List D} {vs : List V} {ks : List Key}, Reps c w ds vs → keyDs ds = some ks → vs = ks.map kV
  | [], vs, ks, r, e => by cases e; exact reps_nil.mp r
  | d :: ds, vs, ks, r, e => by
    obtain ⟨v, t, rfl, r1, r2⟩ := reps_cons.mp r
    unfold keyDs at e
    cases e1 : keyD d with
    | none => rw [e1] at e; simp at e
    | some k =>
      cases e2 : keyDs ds with
      | none => rw [e1, e2] at e; simp at e
      | some ks' =>
        rw [e1, e2] at e
        cases e
        rw [keyD_of r1 e1, keyDs_of r2 e2] <;> rfl
theorem keysD_of {d : D} {v : V} {ks : List Key} (s : Sim c w S σ H) (r : Rep c w d v) (e : keysD d = some ks) : ∃ b, v = .ref b ∧ H b = some (.tup (ks.map kV)) := by
  cases d with
  | tup ds =>
    simp only [Rep] at r
    obtain ⟨a, vs, rfl, h1, h2⟩ := r
    exact ⟨a, rfl, by rw [← keyDs_of h2 e]; exact s.fz _ _ h1⟩
  | _ => cases e
end

/-! ### an item is got, is set -/
def getC : Cell → D → Option D
  | .lst xs, .int i => atI xs i
  | .lst _, _ => none
  | .dK kvs, i => match keyD i with | some k => valA kvs k | none => none
  | .dT kvs, i => match keysD i with | some k => valA kvs k | none => none
  | .ins _ _, _ => none
def setC : Cell → D → D → Option Cell
  | .lst xs, .int i, d => match ixN xs.length i with | some j => some (.lst (xs.set j d)) | none => none
  | .lst _, _, _ => none
  | .dK kvs, i, d => match keyD i with | some k => if kvs.length < sizeLine then some (.dK (putA kvs k d)) else none | none => none
  | .dT kvs, i, d => match keysD i with | some k => if kvs.length < sizeLine then some (.dT (putA kvs k d)) else none | none => none
  | .ins _ _, _, _ => none
def rSetA : TSet := fun o i v H Q => rSetL o i v H Q ∨ rSetD o i v H Q
def tGetA : V → V → Hp → VK → Prop := fun o i H Q => (∃ p xs k z, o = .ref p ∧ i = .int k ∧ H p = some (.lst xs) ∧ atI xs k = some z ∧ Q z H) ∨ ∃ a z, o = .ref a ∧ DGet H a i (some z) ∧ Q z H
theorem setA {X : Cx} {n : Nat} (hr : Room n X.A) : PSet X rSetA := by
  intro pins s σ H o i v ov iv u Q I ro ri rv h
  rcases h with h | h
  · exact set_list pins s σ H o i v ov iv u Q I ro ri rv h
  · exact set_dict (by have := hr.un; omega) pins s σ H o i v ov iv u Q I ro ri rv h
section
variable {c : Gm} {w : Wd} {S : Sg} {σ : FSt} {H : Hp} {P : Pl} {a : Addr} {x y : Cell} {i d : D} {iv v : V}
theorem setC_of (s : Sim c w S σ H) (pa : PlAt w σ a P) (eg : getP P S = some x) (ri : Rep c w i iv) (rd : Rep c w d v) (e : setC x i d = some y) {Q : Hp → Prop} (q : ∀ H', Step w S σ H w (putP P y S) σ H' → Sim c w (putP P y S) σ H' → Q H') : rSetA (.ref a) iv v H Q := by
  obtain ⟨k1, k2⟩ := s.getP pa eg
  cases x with
  | lst xs =>
    cases i with
    | int k =>
      obtain ⟨vs, h1, h2⟩ := k1
      simp only [setC] at e
      cases e1 : ixN xs.length k with
      | none => rw [e1] at e; cases e
      | some j =>
        rw [e1] at e; cases e
        exact .inl ⟨a, vs, k, j, rfl, rep_int ri, h1, by rw [← h2.length]; exact e1, q _ (Step.putP s .lst pa eg) (s.putP pa eg ⟨_, upd_same, h2.set rd j⟩)⟩
    | _ => cases e
  | dK kvs =>
    obtain ⟨ys, h1, h2, h3⟩ := k1
    have T : TabR c w kvs ys := ⟨h2, h3⟩
    simp only [setC] at e
    cases e1 : keyD i with
    | none => rw [e1] at e; cases e
    | some k =>
      rw [e1] at e
      by_cases z : kvs.length < sizeLine
      · simp only [if_pos z] at e; cases e
        have T' := tab_put (k := k) T rd
        exact .inr ⟨a, _, rfl, .inl ⟨ys, k, h1, keyD_of ri e1, by rw [← tab_len T]; exact z, rfl⟩, q _ (Step.putP s .dK pa eg) (s.putP pa eg ⟨_, upd_same, T'.1, T'.2⟩)⟩
      · simp only [if_neg z] at e; cases e
  | dT kvs =>
    obtain ⟨ys, h1, h2, h3⟩ := k1
    have T : TabR c w kvs ys := ⟨h2, h3⟩
    simp only [setC] at e
    cases e1 : keysD i with
    | none => rw [e1] at e; cases e
    | some k =>
      rw [e1] at e
      by_cases z : kvs.length < sizeLine
      · simp only [if_pos z] at e; cases e
        have T' := tab_put (k := k) T rd
        obtain ⟨b, rfl, hb⟩ := keysD_of s ri e1
        exact .inr ⟨a, _, rfl, .inr ⟨ys, k, b, h1, rfl, hb, by rw [← tab_len T]; exact z, rfl⟩, q _ (Step.putP s .dT pa eg) (s.putP pa eg ⟨_, upd_same, T'.1, T'.2⟩)⟩
      · simp only [if_neg z] at e; cases e
  | ins _ _ => cases e
end
def putIx (P : Pl) (i d : D) : M Fl := fun S => match getP P S with
  | some x => match setC x i d with | some y => .ok .nx (putP P y S) | none => .stuck
  | none => .stuck
def getIx (P : Pl) (i : D) : M D := fun S => match getP P S with
  | some x => match getC x i with | some d => .ok d S | none => .stuck
  | none => .stuck
def setIxM (mv : M D) (P : M Pl) (mi : M D) : M Fl := bd mv fun d => bd P fun p => bd mi fun i => putIx p i d
def augIxM (f : D → D → M D) (P : M Pl) (mi mv : M D) : M Fl := bd P fun p => bd mi fun i => bd (getIx p i) fun old => bd mv fun y => bd (f old y) fun z => putIx p i z
section
variable {c : Gm} {E : XK} {w : Wd} {S : Sg} {σ : FSt} {H : Hp} {P : Pl} {a : Addr} {i d : D} {iv v : V} {Dn : Ends}
theorem putIx_of (s : Sim c w S σ H) (pa : PlAt w σ a P) (ri : Rep c w i iv) (rd : Rep c w d v) (po : PoS c E (putIx P i d S) w S σ H Dn) : rSetA (.ref a) iv v H fun H' => Dn.nx σ H' := by
  unfold putIx at po
  cases eg : getP P S with
  | none => simp only [eg] at po; exact po.elim
  | some x =>
    simp only [eg] at po
    cases es : setC x i d with
    | none => simp only [es] at po; exact po.elim
    | some y =>
      simp only [es] at po
      exact setC_of s pa eg ri rd es fun H' st s' => po w σ H' st s'
end
section
variable {X : Cx} {E : XK} {pos tpos : Pos} {o i e : Expr} {P : M Pl} {mi mv : M D} {n : Nat}
theorem ms_setIx (hr : Room n X.A) (he : PE X e (TM (cg X) E mv)) (ho : PE X o (TP (cg X) E P)) (hi : PE X i (TM (cg X) E mi))
    (ha : ∀ v, assign (.Subscript o i tpos) X.env v = (do
      let ov ← holding [v] (eval o X.env)
      let iv ← holding [v, ov] (eval i X.env)
      standAt tpos
      holding [v, ov, iv] (setItem ov iv v)
      release [v, ov, iv] []) := by intro _; rfl)
    (hs : swapsWithSole [.Subscript o i tpos] e pos.line X.env = pure false := by rfl) (hw : swappedStores [.Subscript o i tpos] e X.env = pure none := by rfl)
    (h1 : (assignEach [.Subscript o i tpos] X.env).map (·.2) = [assign (.Subscript o i tpos) X.env] := by rfl) : PS X (.Assign [.Subscript o i tpos] e pos) (TSm (cg X) E (setIxM mv P mi)) := by
  refine PS.weak (ps_asg he (pg_sub ho hi (setA hr) ha) hs hw h1) fun Dn σ H ⟨w, S, s, po⟩ => ?_
  unfold setIxM at po
  refine ⟨w, S, s, PoS.two po fun d w1 S1 H1 st1 s1 po1 v r => ?_⟩
  refine ⟨w1, S1, s1, PoS.two po1 fun p w2 S2 H2 st2 s2 po2 a pa => ?_⟩
  refine ⟨w2, S2, s2, PoS.two po2 fun j w3 S3 H3 st3 s3 po3 iv ri => ?_⟩
  exact putIx_of s3 (pa.mono st3.le) ri (Rep.mono (st2.le.trans st3.le) _ _ r) po3
end
end Mm
end

section
/-! MmJ: names side by side; attributes, new instances, methods; keywords. -/
namespace Mm
open PySem L2
open PyProof.Rows (envOfC)
variable [TabCtx]

/-! ### a, b = x, y: values, and new objects of their own -/
inductive ItR (c : Gm) (w : Wd) (S : Sg) (σ : FSt) (H : Hp) : Hp → List Slot → List V → Prop where
  | nil {H0 : Hp} : ItR c w S σ H H0 [] []
  | val {H0 : Hp} {d : D} {v : V} {xs : List Slot} {vs : List V} : Rep c w d v → ItR c w S σ H H0 xs vs → ItR c w S σ H H0 (.val d :: xs) (v :: vs)
  | own {H0 H1 : Hp} {x : Cell} {p : Addr} {xs : List Slot} {vs : List V} : Nn H0 p → CellR c w H p x → w.Hf p = none → ¬ Mu w S σ p → (∀ a, Nn H1 a → Nn H0 a) → ¬ Nn H1 p → ItR c w S σ H H1 xs vs → ItR c w S σ H H0 (.own x :: xs) (.ref p :: vs)
theorem ItR.down {c : Gm} {w : Wd} {S : Sg} {σ : FSt} {H H0 H1 : Hp} {xs : List Slot} {vs : List V} (h : ItR c w S σ H H1 xs vs) (k : ∀ a, Nn H1 a → Nn H0 a) : ItR c w S σ H H0 xs vs := by
  induction h generalizing H0 with
  | nil => exact .nil
  | val r t ih => exact .val r (ih k)
  | own a b c d e f t ih => exact .own (k _ a) b c d (fun x h => k _ (e x h)) f t
theorem ItR.step {c : Gm} {w : Wd} {S S' : Sg} {σ σ' : FSt} {H H1 : Hp} {xs : List Slot} {vs : List V} (h : ItR c w S σ H H1 xs vs) (k : ∀ a, Nn H1 a → Mu w S' σ' a → Mu w S σ a) : ItR c w S' σ' H H1 xs vs := by
  induction h with
  | nil => exact .nil
  | val r t ih => exact .val r (ih k)
  | own a b c d e f t ih => exact .own a b c (fun m => d (k _ a m)) e f (ih fun x h => k x (e x h))
def TLs (c : Gm) (E : XK) (m : M (List Slot)) : TA := fun σ H Q => ∃ w S, Sim c w S σ H ∧ Po c E (m S) w S σ H fun xs w' S' H' => ∀ vs, ItR c w' S' σ H' H xs vs → Q vs H'
def pNil : M (List Slot) := ret []
def pVal (m : M D) (ms : M (List Slot)) : M (List Slot) := bd m fun d => bd ms fun xs => ret (.val d :: xs)
def pOwn (m : M Cell) (ms : M (List Slot)) : M (List Slot) := bd m fun x => bd ms fun xs => ret (.own x :: xs)
section
variable {X : Cx} {E : XK} {pos : Pos} {e : Expr} {es : List Expr} {m : M D} {mc : M Cell} {ms : M (List Slot)}
theorem mp_nil : PA X [] (TLs (cg X) E pNil) := PA.weak pa_nil fun σ H Q ⟨w, S, s, po⟩ => po w H (.refl ..) s [] .nil
theorem mp_val (h : PE X e (TM (cg X) E m)) (t : PA X es (TLs (cg X) E ms)) (hs : starEach (e :: es) X.env = (false, eval e X.env) :: starEach es X.env := by rfl) : PA X (e :: es) (TLs (cg X) E (pVal m ms)) := by
  refine PA.weak (pa_cons h t hs) fun σ H Q ⟨w, S, s, po⟩ => ?_
  refine ⟨w, S, s, Po.two (k := fun d => bd ms fun xs => ret (Slot.val d :: xs)) po fun d w1 S1 H1 st1 s1 po1 v r => ?_⟩
  refine ⟨w1, S1, s1, Po.two (k := fun xs => ret (Slot.val d :: xs)) po1 fun xs w2 S2 H2 st2 s2 po2 vs rs => ?_⟩
  exact po2 w2 H2 (.refl ..) s2 _ (.val (Rep.mono st2.le _ _ r) (rs.down st1.th))
theorem mp_own (h : PE X e (TC (cg X) E mc)) (t : PA X es (TLs (cg X) E ms)) (hs : starEach (e :: es) X.env = (false, eval e X.env) :: starEach es X.env := by rfl) : PA X (e :: es) (TLs (cg X) E (pOwn mc ms)) := by
  refine PA.weak (pa_cons h t hs) fun σ H Q ⟨w, S, s, po⟩ => ?_
  refine ⟨w, S, s, Po.two (k := fun x => bd ms fun xs => ret (Slot.own x :: xs)) po fun x w1 S1 H1 st1 s1 po1 p hp hc hf hm => ?_⟩
  refine ⟨w1, S1, s1, Po.two (k := fun xs => ret (Slot.own x :: xs)) po1 fun xs w2 S2 H2 st2 s2 po2 vs rs => ?_⟩
  obtain ⟨o, ho⟩ := hc.there
  obtain ⟨q1, q2, q3⟩ := st2.keep p o ho (hc.nt o ho).1 hf hm
  exact po2 w2 H2 (.refl ..) s2 _ (.own hp (hc.mono st2.le (q1.trans ho.symm)) q2 q3 st1.th (fun z => (z.ne ho (hc.nt o ho).1) rfl) rs)
end
def stAll : List Nat → List Slot → Sg → Sg
  | i :: is, x :: xs, S => stAll is xs (S.st i x)
  | _, _, S => S
def svAll : List Nat → List V → FSt → FSt
  | i :: is, v :: vs, σ => svAll is vs (σ.set i (some v))
  | _, _, σ => σ
theorem itR_all {c : Gm} {w0 : Wd} {S0 : Sg} {σ0 : FSt} {Hs : Hp} {w : Wd} {H : Hp} : ∀ (is : List Nat) (xs : List Slot) (vs : List V) (S : Sg) (σ : FSt) (H0 : Hp), ItR c w S σ H H0 xs vs → (∀ a, Nn H0 a → Nn Hs a) → Sim c w S σ H → Step w0 S0 σ0 Hs w S σ H →
    Sim c w (stAll is xs S) (svAll is vs σ) H ∧ Step w0 S0 σ0 Hs w (stAll is xs S) (svAll is vs σ) H
  | [], xs, vs, S, σ, H0, r, k, s, st => by
    cases xs <;> exact ⟨s, st⟩
  | i :: is, _, _, S, σ, H0, .nil, k, s, st => ⟨s, st⟩
  | i :: is, _, _, S, σ, H0, .val (d := d) (v := v) (xs := xs) (vs := vs) q t, k, s, st =>
    itR_all is xs vs (S.st i (.val d)) (σ.set i (some v)) H0 (t.step fun a _ m => mu_setVal m) k (s.setVal q) (st.trans (Step.setVal ..))
  | i :: is, _, _, S, σ, H0, .own (H1 := H1) (x := x) (p := p) (xs := xs) (vs := vs) a b cc d e f t, k, s, st =>
    itR_all is xs vs (S.st i (.own x)) (σ.set i (some (.ref p))) H1 (t.step fun q hq m => by
      rcases m with m | ⟨j, y, e1, z⟩
      · exact .inl m
      · rcases set_get e1 with ⟨e2, e3⟩ | ⟨e2, e3⟩
        · subst e2
          have z2 : (σ.set j (some (.ref p)))[j]? = some (some (.ref q)) := z
          have hi : j < σ.length := by
            have := (List.getElem?_eq_some_iff.mp z2).1
            rwa [List.length_set] at this
          rw [List.getElem?_set_self hi] at z2
          cases z2
          exact absurd hq f
        · exact .inr ⟨j, y, e3, (slotV_ne e2).mp z⟩) (fun q hq => k q (e q hq)) (s.setOwn b cc d) (Step.setOwn st (k p a))
def parM (is : List Nat) (ms : M (List Slot)) : M Fl := bd ms fun xs S => if xs.length = is.length then .ok .nx (stAll is xs S) else .stuck
theorem itR_len {c : Gm} {w : Wd} {S : Sg} {σ : FSt} {H H0 : Hp} {xs : List Slot} {vs : List V} (h : ItR c w S σ H H0 xs vs) : xs.length = vs.length := by
  induction h with
  | nil => rfl
  | val _ _ ih => rw [List.length_cons, List.length_cons, ih]
  | own _ _ _ _ _ _ _ ih => rw [List.length_cons, List.length_cons, ih]
theorem par_of {c : Gm} {E : XK} {is : List Nat} {ms : M (List Slot)} : ∀ Dn σ H, TSm c E (parM is ms) Dn σ H → TLs c E ms σ H fun vs H1 => vs.length = is.length ∧ Dn.nx (svAll is vs σ) H1 := by
  rintro Dn σ H ⟨w, S, s, po⟩
  refine ⟨w, S, s, ?_⟩
  have po : PoS c E ((ms S).bind fun xs S => if xs.length = is.length then .ok .nx (stAll is xs S) else .stuck) w S σ H Dn := po
  cases e : ms S with
  | ok xs S1 =>
    rw [e] at po
    have po : PoS c E (if xs.length = is.length then .ok .nx (stAll is xs S1) else .stuck) w S σ H Dn := po
    by_cases hl : xs.length = is.length
    · rw [if_pos hl] at po
      intro w1 H1 st1 s1 vs r
      refine ⟨(itR_len r).symm.trans hl, ?_⟩
      obtain ⟨s2, st2⟩ := itR_all is xs vs S1 σ H r (fun _ h => h) s1 st1
      exact po w1 _ H1 st2 s2
    · rw [if_neg hl] at po; exact po.elim
  | exc C fs S1 => rw [e] at po; exact po
  | stuck => rw [e] at po; exact po
section
variable {X : Cx} {E : XK} {ms : M (List Slot)}
theorem ms_par {i j : Nat} {x y : Str} {a b : Expr} {px py pt pos : Pos} {kt k2 pt2} (hc : X.calm = true) (hN : X.N.Nodup) (hi : X.N[i]? = some x) (hj : X.N[j]? = some y) (hij : i ≠ j)
    (hx : X.env.scope.names.lookup x = some .local) (hy : X.env.scope.names.lookup y = some .local) (ha : PA X [a, b] (TLs (cg X) E ms))
    (hw : swappedStores [.Tuple [.Name x px, .Name y py] kt pt] (.Tuple [a, b] k2 pt2) X.env = pure (some [x, y]))
    (hs : swapsWithSole [.Tuple [.Name x px, .Name y py] kt pt] (.Tuple [a, b] k2 pt2) pos.line X.env = pure false := by rfl) :
    PS X (.Assign [.Tuple [.Name x px, .Name y py] kt pt] (.Tuple [a, b] k2 pt2) pos) (TSm (cg X) E (parM [i, j] ms)) := by
  refine PS.weak (ps_par hc hN hi hj hij hx hy ha hw hs) fun Dn σ H h => ?_
  obtain ⟨w, S, s, po⟩ := par_of Dn σ H h
  refine ⟨w, S, s, po.imp fun xs w1 S1 H1 st1 s1 k vs r => ?_⟩
  obtain ⟨hl, q⟩ := k vs r
  match vs, hl, q with
  | [u, v], _, q => exact ⟨u, v, rfl, q⟩
/-- target = value, any target -/
def asgM (T : Tg) (m : M D) : M Fl := bd m fun d S => match asg T d S with | some S' => .ok .nx S' | none => .stuck
end

/-! ### attributes -/
def lookA (f : Str) : List (Str × D) → Option D
  | [] => none
  | p :: r => if f = p.1 then some p.2 else lookA f r
def putFA (f : Str) (d : D) : List (Str × D) → List (Str × D)
  | [] => [(f, d)]
  | p :: r => if p.1 = f then (p.1, d) :: r else p :: putFA f d r
theorem tab_look {c : Gm} {w : Wd} {f : Str} {d : D} : ∀ {fs : List (Str × D)} {ys : List (Str × V)}, TabR c w fs ys → lookA f fs = some d → ∃ v, ys.lookup f = some v ∧ Rep c w d v
  | [], ys, h, e => by cases e
  | p :: fs, ys, h, e => by
    obtain ⟨v, r, rfl, h1, h2⟩ := tab_inv h
    unfold lookA at e
    by_cases z : f = p.1
    · rw [if_pos z] at e; cases e
      exact ⟨v, by rw [List.lookup_cons]; simp [z], h1⟩
    · rw [if_neg z] at e
      obtain ⟨u, k1, k2⟩ := tab_look h2 e
      refine ⟨u, ?_, k2⟩
      rw [List.lookup_cons]
      have : (f == p.1) = false := by simpa using z
      rw [this]; exact k1
/-- a class whose attributes may be asked for, set -/
structure ClsA (K : PySem.W.Frag) (mg : Str → Option Value) (C : Str) (fs : List Str) : Prop where
  ex : ∃ Ca, mg C = some (.ref Ca) ∧ Cls K Ca ∧ ∀ f ∈ fs, NoAttr K Ca f
def fldM (Cs : List Str) (f : Str) (m : M D) : M D := bd m fun d S => match d with
  | .box r => match S.g.cs r with
    | some (.ins C fs) => if C ∈ Cs then (match lookA f fs with | some x => .ok x S | none => .stuck) else .stuck
    | _ => .stuck
  | _ => .stuck
def setFldM (Cs : List Str) (f : Str) (mv m : M D) : M Fl := bd mv fun y => bd m fun d S => match d with
  | .box r => match S.g.cs r with
    | some (.ins C fs) => if C ∈ Cs ∧ fs.length < 1000 then .ok .nx (S.up (S.g.put r (.ins C (putFA f y fs)))) else .stuck
    | _ => .stuck
  | _ => .stuck
section
variable {X : Cx} {E : XK} {pos pos' : Pos} {o e : Expr} {m mv : M D} {f : Str} {Cs fl : List Str}
end

/-! ### new instances -/
def newM (C : Str) (f : F) (ds : List D) : M D := fun S => match f (.box S.g.nx :: ds) ⟨[], S.g.add (.ins C [])⟩ with
  | .ok .non S' => .ok (.box S.g.nx) ⟨S.sl, S'.g⟩
  | .ok _ _ => .stuck
  | .exc B fs S' => .exc B fs ⟨S.sl, S'.g⟩
  | .stuck => .stuck
def makeM (C : Str) (f : F) (ms : M (List D)) : M D := bd ms fun ds => newM C f ds
/-- a class that may be made by its name -/
structure MkM (P : Program) (w : World) (K : PySem.W.Frag) (mg : Str → Option Value) (base : Heap) (k : Nat) (x qual : Str) (st : Stmt) (ps : List Str) (f : F) : Prop where
  flat : Flat f
  ex : ∃ (C fa : Addr) (fd : FuncData), Mk K C fa ∧ FnOk P w K mg base (L2.CX P w) k fa fd ps (spM (gmOf K mg) ps.length f) ∧ mg x = some (.ref C) ∧ Binds K fd ps [] ∧ Fun K "__init__" qual st fa fd
section
variable {X : Cx} {E : XK} {k j n : Nat} {x qual m : Str} {st : Stmt} {ps : List Str} {f : F} {p pos apos : Pos} {e o : Expr} {es : List Expr} {ms : M (List D)} {mo : M D}
theorem po_args {c : Gm} {w : Wd} {S : Sg} {σ : FSt} {H : Hp} {ms : M (List D)} {kf : List D → M D} {K : D → Wd → Sg → Hp → Prop} {K' : List D → Wd → Sg → Hp → Prop} (hn : ArgN n ms) (po : Po c E (bd ms kf S) w S σ H K)
    (q : ∀ ds w1 S1 H1, ds.length = n → Step w S σ H w1 S1 σ H1 → Sim c w1 S1 σ H1 → Po c E (kf ds S1) w1 S1 σ H1 K → K' ds w1 S1 H1) : Po c E (ms S) w S σ H K' := by
  have po : Po c E ((ms S).bind kf) w S σ H K := po
  cases em : ms S with
  | exc C fs S' => rw [em] at po; exact po
  | stuck => rw [em] at po; exact po
  | ok ds S1 =>
    rw [em] at po
    exact fun w1 H1 st1 s1 => q ds w1 S1 H1 (hn _ _ _ em) st1 s1 (Po.rebase st1 po)
/-- methods: a def of a class, called on an instance -/
structure MtM (P : Program) (w : World) (K : PySem.W.Frag) (mg : Str → Option Value) (base : Heap) (k : Nat) (C m qual : Str) (st : Stmt) (ps : List Str) (f : F) : Prop where
  flat : Flat f
  ex : ∃ (Ca fa : Addr) (fd : FuncData), mg C = some (.ref Ca) ∧ Cls K Ca ∧ Meth K Ca m fa ∧ FnOk P w K mg base (L2.CX P w) k fa fd ps (spM (gmOf K mg) ps.length f) ∧ Binds K fd ps [] ∧ Fun K m qual st fa fd
/-- the receiver is an instance of C without an attribute m of its own -/
def recM (C m : Str) : D → M D := fun d S => match d with
  | .box r => match S.g.cs r with
    | some (.ins B fs) => if B = C ∧ lookA m fs = none then .ok d S else .stuck
    | _ => .stuck
  | _ => .stuck
def methM (C m : Str) (f : F) (mo : M D) (ms : M (List D)) : M D := bd (bd mo (recM C m)) fun d => bd ms fun ds => inF (f (d :: ds))
theorem inF_of {c : Gm} {n : Nat} {f : F} {ds : List D} {vs : List V} {w : Wd} {S : Sg} {σ : FSt} {H : Hp} {Q : VK} (hf : Flat f) (hn : ds.length = n) (s : Sim c w S σ H) (r : Reps c w ds vs) (po : Po c E (inF (f ds) S) w S σ H (KD c Q)) : spM c n f vs H Q E := by
  refine ⟨by rw [← r.length]; exact hn, w, S.g, ds, s.drop, r, ?_⟩
  unfold inF at po
  have fl := hf ds S.g
  cases e : f ds ⟨[], S.g⟩ with
  | ok d S2 =>
    rw [e] at po fl
    obtain ⟨sl2, g2⟩ := S2
    obtain rfl : sl2 = [] := fl
    intro w2 H2 st2 s2 v rv
    exact po w2 H2 (Step.back s st2) (s.back st2 s2) v rv
  | exc C fs S2 =>
    rw [e] at po fl
    obtain ⟨sl2, g2⟩ := S2
    obtain rfl : sl2 = [] := fl
    intro w2 σ2 H2 Ca dx ys st2 s2 hC hd hy hr
    have st2 : Step w ⟨[], S.g⟩ [] H w2 ⟨[], g2⟩ [] H2 := st2.trans (Step.drop (σ := σ2))
    exact po w2 σ H2 Ca dx ys (Step.back s st2) (s.back st2 s2.drop) hC hd hy hr
  | stuck => rw [e] at po; exact po
end
end Mm
end

section
/-! MmK: isinstance; own == and !=. -/
namespace Mm
open PySem L2
open PyProof.Rows (envOfC)
variable [TabCtx]

/-! ### isinstance -/
/-- a value's class: a built-in one, or an own one by its name -/
inductive Ty where
  | bt (n : String) | own (C : Str)
deriving DecidableEq
def known : List String := ["NoneType", "bool", "int", "str", "list", "tuple", "dict", "function"]
def isT (a b : String) : Bool := a == b || (a == "bool" && b == "int")
theorem kitB_known : ∀ a ∈ known, ∀ b ∈ known, kitB a b = some (isT a b) := by decide +kernel
structure Kfn (K : PySem.W.Frag) (mg : Str → Option Value) (x : Str) : Prop where
  ex : ∃ a, mg x = some (.ref a) ∧ PySem.W.typeIn K (.ref a) = some (.type "function")
structure Kcl (K : PySem.W.Frag) (mg : Str → Option Value) (C : Str) : Prop where
  ex : ∃ Ca, mg C = some (.ref Ca) ∧ Cls K Ca ∧ PySem.W.findIn K (.ref Ca) "__class__" = some (some (.builtin "object.__class__")) ∧ PySem.W.specialIn K (.builtin "object.__class__") "__get__" = some (some (.builtin "getset_descriptor.__get__")) ∧
    PySem.W.takesIn K (.builtin "object.__class__") = some true ∧ PySem.W.mroIn K Ca (.type "object") = some true ∧ (∀ b ∈ known, PySem.W.kitOne K (.ref Ca) (.type b) = some false) ∧ ∀ a ∈ known, PySem.W.kitOne K (.type a) (.ref Ca) = some false
structure KitOk (K : PySem.W.Frag) (mg : Str → Option Value) (fns cls : List Str) : Prop where
  f : ∀ x ∈ fns, Kfn K mg x
  c : ∀ C ∈ cls, Kcl K mg C
def tyD (fns cls : List Str) (S : Sg) : D → Option Ty
  | .non => some (.bt "NoneType")
  | .bl _ => some (.bt "bool")
  | .int _ => some (.bt "int")
  | .str _ => some (.bt "str")
  | .lst _ => some (.bt "list")
  | .scr _ => some (.bt "list")
  | .tup _ => some (.bt "tuple")
  | .ty _ => none
  | .glo x => if x ∈ fns then some (.bt "function") else none
  | .box r => match S.g.cs r with
    | some (.lst _) => some (.bt "list")
    | some (.dK _) => some (.bt "dict")
    | some (.dT _) => some (.bt "dict")
    | some (.ins C _) => if C ∈ cls then some (.own C) else none
    | none => none
def clD (cls : List Str) : D → Option Ty
  | .ty n => if n ∈ known then some (.bt n) else none
  | .glo x => if x ∈ cls then some (.own x) else none
  | _ => none
def clDs (cls : List Str) : List D → Option (List Ty)
  | [] => some []
  | d :: ds => match clD cls d, clDs cls ds with
    | some t, some ts => some (t :: ts)
    | _, _ => none
def kitT : Ty → Ty → Option Bool
  | .bt a, .bt b => some (isT a b)
  | .bt _, .own _ => some false
  | .own _, .bt _ => some false
  | .own C, .own B => if C = B then some true else none
def kitTs (t : Ty) : List Ty → Option Bool
  | [] => some false
  | c :: cs => match kitT t c with
    | some true => some true
    | some false => kitTs t cs
    | none => none
def isiF (fns cls : List Str) : List D → M D
  | [d, c] => fun S => match tyD fns cls S d with
    | none => .stuck
    | some t => match c with
      | .tup cs => match clDs cls cs with
        | none => .stuck
        | some ts => match kitTs t ts with | some b => .ok (.bl b) S | none => .stuck
      | c => match clD cls c with
        | none => .stuck
        | some u => match kitT t u with | some b => .ok (.bl b) S | none => .stuck
  | _ => nope
/-- a value's class, as the kit's rules want it -/
inductive TyY (K : PySem.W.Frag) (H : Hp) : V → Value → Prop where
  | base {x : V} {t : Value} (h : TyX K H x t) : TyY K H x t
  | fn {a : Addr} (h : PySem.W.typeIn K (.ref a) = some (.type "function")) : TyY K H (.ref a) (.type "function")
theorem kit_ofY {X : Cx} {pins : List (Addr × Obj)} {σ : FSt} {H : Hp} {s : Shared} {x : V} {u t : Value} (I : Inv X pins σ H s) (rx : RelV x u) (ty : TyY X.K H x t) : ∃ P : Heap → Prop, PySem.W.KitX X.K u t P ∧ P s.heap ∧ u ≠ .builtin "__main__.__loader__#opaque" := by
  cases ty with
  | base h => exact kit_of I rx h
  | @fn a h =>
    cases (show u = Value.ref a from rx)
    obtain ⟨o, ho, hc⟩ := Option.map_eq_some_iff.mp h
    exact ⟨_, kitx_fn, ⟨o, I.kIn _ _ ho, hc⟩, fun z => nomatch z⟩
def rIsiY (K : PySem.W.Frag) : List V → Hp → VK → Prop := fun xs H Q => (∃ (x c : V) (t u : Value) (b : Bool), xs = [x, c] ∧ ClsV c u ∧ TyY K H x t ∧ PySem.W.kitOne K t u = some b ∧ Q (.bl b) H) ∨
  ∃ (x : V) (tp : Addr) (cs : List V) (t : Value) (us : List Value) (b : Bool), xs = [x, .ref tp] ∧ H tp = some (.tup cs) ∧ Paired ClsV cs us ∧ TyY K H x t ∧ PySem.W.kitAny K t us = some b ∧ Q (.bl b) H
theorem call_isiY {X : Cx} : CallR X (.builtin "isinstance") (rIsiY X.K) := by
  intro pins s σ H xs us Q I r h
  rcases h with ⟨x, c, t, u, b, rfl, k, ty, e, q⟩ | ⟨x, tp, cs, t, ws, b, rfl, hT, k, ty, e, q⟩
  · obtain ⟨u1, u2, rfl, r1, r2⟩ := vals2 r
    have e2 := k.eq r2
    subst e2
    obtain ⟨P, Z, p, hx⟩ := kit_ofY I r1 ty
    exact PySem.W.kia_one Z I.kIn p e hx fun tk => ⟨.bl b, H, I.tok tk, rfl, q⟩
  · obtain ⟨u1, u2, rfl, r1, r2⟩ := vals2 r
    cases (show u2 = Value.ref tp from r2)
    obtain ⟨P, Z, p, hx⟩ := kit_ofY I r1 ty
    obtain ⟨_, its, rv, o, h1, h2, n, h3⟩ := (show ObjOk X.prog X.w H s.heap tp (.tup cs) from I.hok tp _ hT)
    have e3 := ClsV.all k rv
    subst e3
    obtain ⟨oc, od, dt, sl⟩ := o
    simp only at h2 h3
    subst h2 h3
    exact PySem.W.kia_tup Z I.kIn p h1 e hx fun tk => ⟨.bl b, H, I.tok tk, rfl, q⟩
/-- the class as a value of the kit -/
def tyV2 (mg : Str → Option Value) : Ty → Value
  | .bt n => .type n
  | .own C => (mg C).getD .none
def TyGood (cls : List Str) : Ty → Prop
  | .bt n => n ∈ known
  | .own C => C ∈ cls
section
variable {K : PySem.W.Frag} {mg : Str → Option Value} {fns cls : List Str} {w : Wd} {S : Sg} {σ : FSt} {H : Hp}
theorem tyD_of (k : KitOk K mg fns cls) (s : Sim (gmOf K mg) w S σ H) {d : D} {v : V} {t : Ty} (r : Rep (gmOf K mg) w d v) (e : tyD fns cls S d = some t) : TyY K H v (tyV2 mg t) := by
  cases d with
  | non => cases e; simp only [Rep] at r; subst r; exact .base (.base .non)
  | bl b => cases e; rw [rep_bl r]; exact .base (.base (.bl b))
  | int i => cases e; rw [rep_int r]; exact .base (.base (.int i))
  | str x => cases e; simp only [Rep] at r; subst r; exact .base (.base (.str x))
  | lst xs =>
    cases e
    simp only [Rep] at r
    obtain ⟨a, vs, rfl, h1, h2⟩ := r
    exact .base (.base (.lst (s.fz _ _ h1)))
  | tup xs =>
    cases e
    simp only [Rep] at r
    obtain ⟨a, vs, rfl, h1, h2⟩ := r
    exact .base (.base (.tup (s.fz _ _ h1)))
  | scr ns =>
    cases e
    simp only [Rep] at r
    obtain ⟨a, rfl, h1⟩ := r
    rcases h1 with (h1 | ⟨o, h1⟩) | h1
    · exact .base (.base (.lst (s.fz _ _ h1)))
    · exact .base (.base (.frz (s.fz _ _ h1)))
    · obtain ⟨o, ho, hc, _⟩ : ∃ o, K.lookup a = some o ∧ o.cls = .type "list" ∧ True := by
        first
          | exact (let ⟨o, h, z⟩ := h1; ⟨o, h, z.1, trivial⟩)
          | (obtain ⟨its, h2, h3⟩ := h1; exact ⟨_, h3, rfl, trivial⟩)
          | (obtain ⟨its, n, h2, h3⟩ := h1; exact ⟨_, h3, rfl, trivial⟩)
          | (obtain ⟨its, n, dd, h2, h3⟩ := h1; exact ⟨_, h3, rfl, trivial⟩)
          | (obtain ⟨o, n, its, h2, h3, h4, h5⟩ := h1; exact ⟨_, h2, h3, trivial⟩)
      exact .base (.kList ho hc)
  | ty n => cases e
  | glo x =>
    simp only [tyD] at e
    by_cases z : x ∈ fns
    · rw [if_pos z] at e; cases e
      simp only [Rep] at r
      obtain ⟨a, h1, rfl⟩ := r
      obtain ⟨a', h2, h3⟩ := (k.f x z).ex
      have h4 : (gmOf K mg).gl x = some a' := by show (match mg x with | some (.ref a) => some a | _ => none) = some a'; rw [h2]
      rw [h4] at h1; cases h1
      exact .fn h3
    · rw [if_neg z] at e; cases e
  | box q =>
    simp only [tyD] at e
    simp only [Rep] at r
    obtain ⟨h1, rfl⟩ := r
    cases eg : S.g.cs q with
    | none => rw [eg] at e; cases e
    | some x =>
      rw [eg] at e
      obtain ⟨_, c2, _⟩ := s.cell q _ eg
      cases x with
      | lst xs => cases e; obtain ⟨vs, k1, k2⟩ := c2; exact .base (.base (.lst k1))
      | dK xs => cases e; obtain ⟨vs, k1, k2⟩ := c2; exact .base (.base (.dK k1))
      | dT xs => cases e; obtain ⟨vs, k1, k2⟩ := c2; exact .base (.base (.dT k1))
      | ins C fs =>
        simp only at e
        by_cases hg : C ∈ cls
        case neg => rw [if_neg hg] at e; cases e
        rw [if_pos hg] at e
        cases e
        obtain ⟨Ca, dx, ys, k0, k1, k2, k3⟩ := c2
        obtain ⟨Cb, m1, m2, m3, m4, m5, m6, _⟩ := (k.c C hg).ex
        have h4 : (gmOf K mg).gl C = some Cb := by show (match mg C with | some (.ref a) => some a | _ => none) = some Cb; rw [m1]
        obtain rfl : Cb = Ca := by rw [h4] at k0; exact Option.some.inj k0
        have e2 : tyV2 mg (.own C) = .ref Cb := by show (mg C).getD .none = _; rw [m1]; rfl
        rw [e2]
        exact .base (.base (.ins k1 m2 m3 m4 m5 m6))
theorem clD_of (k : KitOk K mg fns cls) {d : D} {v : V} {t : Ty} (r : Rep (gmOf K mg) w d v) (e : clD cls d = some t) : ClsV v (tyV2 mg t) ∧ TyGood cls t := by
  cases d with
  | ty n =>
    simp only [clD] at e
    by_cases z : n ∈ known
    · rw [if_pos z] at e; cases e
      simp only [Rep] at r; subst r
      exact ⟨.ty n, z⟩
    · rw [if_neg z] at e; cases e
  | glo x =>
    simp only [clD] at e
    by_cases z : x ∈ cls
    · rw [if_pos z] at e; cases e
      simp only [Rep] at r
      obtain ⟨a, h1, rfl⟩ := r
      obtain ⟨Cb, m1, _⟩ := (k.c x z).ex
      have h4 : (gmOf K mg).gl x = some Cb := by show (match mg x with | some (.ref a) => some a | _ => none) = some Cb; rw [m1]
      obtain rfl : Cb = a := by rw [h4] at h1; exact Option.some.inj h1
      have e2 : tyV2 mg (.own x) = .ref Cb := by show (mg x).getD .none = _; rw [m1]; rfl
      rw [e2]
      exact ⟨.own Cb, z⟩
    · rw [if_neg z] at e; cases e
  | _ => cases e
theorem clDs_of (k : KitOk K mg fns cls) : ∀ {ds : List D} {vs : List V} {ts : List Ty}, Reps (gmOf K mg) w ds vs → clDs cls ds = some ts → Paired ClsV vs (ts.map (tyV2 mg)) ∧ ∀ t ∈ ts, TyGood cls t
  | [], vs, ts, r, e => by cases e; rw [reps_nil.mp r]; exact ⟨.nil, fun _ h => by cases h⟩
  | d :: ds, vs, ts, r, e => by
    obtain ⟨v, t, rfl, r1, r2⟩ := reps_cons.mp r
    unfold clDs at e
    cases e1 : clD cls d with
    | none => rw [e1] at e; simp at e
    | some t =>
      cases e2 : clDs cls ds with
      | none => rw [e1, e2] at e; simp at e
      | some ts' =>
        rw [e1, e2] at e; cases e
        obtain ⟨a, b⟩ := clD_of k r1 e1
        obtain ⟨a2, b2⟩ := clDs_of k r2 e2
        exact ⟨.cons a a2, fun z hz => (List.mem_cons.mp hz).elim (fun h => h ▸ b) (b2 z)⟩
theorem kitT_of (k : KitOk K mg fns cls) {t u : Ty} {b : Bool} (ht : TyGood cls t) (hu : TyGood cls u) (e : kitT t u = some b) : PySem.W.kitOne K (tyV2 mg t) (tyV2 mg u) = some b := by
  cases t with
  | bt a =>
    cases u with
    | bt c => cases e; exact kit_ty (kitB_known a ht c hu)
    | own C =>
      cases e
      obtain ⟨Cb, m1, m2, m3, m4, m5, m6, m7, m8⟩ := (k.c C hu).ex
      have e2 : tyV2 mg (.own C) = .ref Cb := by show (mg C).getD .none = _; rw [m1]; rfl
      rw [e2]; exact m8 a ht
  | own C =>
    obtain ⟨Cb, m1, m2, m3, m4, m5, m6, m7, m8⟩ := (k.c C ht).ex
    have e2 : tyV2 mg (.own C) = .ref Cb := by show (mg C).getD .none = _; rw [m1]; rfl
    cases u with
    | bt c => cases e; rw [e2]; exact m7 c hu
    | own B =>
      simp only [kitT] at e
      by_cases z : C = B
      · rw [if_pos z] at e; cases e
        subst z
        rw [e2]
        unfold PySem.W.kitOne
        rw [if_pos (by simp)]
      · rw [if_neg z] at e; cases e
theorem kitTs_of (k : KitOk K mg fns cls) {t : Ty} (ht : TyGood cls t) : ∀ {us : List Ty} {b : Bool}, (∀ u ∈ us, TyGood cls u) → kitTs t us = some b → PySem.W.kitAny K (tyV2 mg t) (us.map (tyV2 mg)) = some b
  | [], b, _, e => by cases e; rfl
  | u :: us, b, hg, e => by
    unfold kitTs at e
    rw [List.map_cons]
    cases e1 : kitT t u with
    | none => rw [e1] at e; cases e
    | some c =>
      rw [e1] at e
      have h1 := kitT_of k ht (hg u List.mem_cons_self) e1
      cases c with
      | true => cases e; exact kitAny_cons h1 (fun z => by cases z) fun _ => rfl
      | false => exact kitAny_cons h1 (fun _ => kitTs_of k ht (fun x hx => hg x (List.mem_cons_of_mem _ hx)) e) fun z => by cases z
end
theorem good_bt {cls : List Str} {n : String} (h : n ∈ known) : TyGood cls (.bt n) := h
theorem tyD_good {fns cls : List Str} {S : Sg} {d : D} {t : Ty} (e : tyD fns cls S d = some t) : TyGood cls t := by
  cases d with
  | ty n => cases e
  | glo x =>
    simp only [tyD] at e
    by_cases z : x ∈ fns
    · rw [if_pos z] at e; cases e
      show "function" ∈ known
      decide
    · rw [if_neg z] at e; cases e
  | box q =>
    simp only [tyD] at e
    cases eg : S.g.cs q with
    | none => rw [eg] at e; cases e
    | some x =>
      rw [eg] at e
      cases x with
      | ins C fs =>
        simp only at e
        by_cases z : C ∈ cls
        · rw [if_pos z] at e; cases e; exact z
        · rw [if_neg z] at e; cases e
      | _ => cases e; exact good_bt (by decide)
  | _ => cases e; exact good_bt (by decide)
section
variable {X : Cx} {E : XK} {p pos : Pos} {a b : Expr} {ma mb : M D} {fns cls : List Str}
def isiM (fns cls : List Str) (ma mb : M D) : M D := bd (consM ma (consM mb nilM)) (isiF fns cls)
theorem me_isi (k : KitOk X.K X.mg fns cls) (hg : Gl X "isinstance") (hm : X.mg "isinstance" = none) (ha : PE X a (TM (cg X) E ma)) (hb : PE X b (TM (cg X) E mb))
    (h1' : starEach [a, b] X.env = (false, eval a X.env) :: starEach [b] X.env := by rfl) (h2' : starEach [b] X.env = [(false, eval b X.env)] := by rfl) : PE X (.Call (.Name "isinstance" p) [a, b] [] pos) (TM (cg X) E (isiM fns cls ma mb)) := by
  refine PE.weak (pe_callB call_isiY hg hm rfl (ml_cons ha (ml_cons hb ml_nil h2') h1') (by decide) (by decide) h1' (by rw [h2'] <;> rfl)) fun σ H Q ⟨w, S, s, po⟩ => ?_
  unfold isiM at po
  refine ⟨w, S, s, Po.two po fun ds w1 S1 H1 st1 s1 po1 vs r => ?_⟩
  cases ds with
  | nil => exact po1.elim
  | cons d t =>
    cases t with
    | nil => exact po1.elim
    | cons c t =>
      cases t with
      | cons _ _ => exact po1.elim
      | nil =>
        obtain ⟨v, t, rfl, r1, r2⟩ := reps_cons.mp r
        obtain ⟨u, t, rfl, r3, r4⟩ := reps_cons.mp r2
        cases reps_nil.mp r4
        cases et : tyD fns cls S1 d with
        | none => simp only [isiF, et] at po1; exact po1.elim
        | some ty =>
          have h1 := tyD_of k s1 r1 et
          have hgd := tyD_good et
          have other : ∀ uu, clD cls c = some uu → (∀ bb, kitT ty uu = some bb → Q (.bl bb) H1) → (∃ bb, kitT ty uu = some bb) → rIsiY X.K [v, u] H1 Q := fun uu e1 q ⟨bb, e2⟩ => by
            obtain ⟨k1, k2⟩ := clD_of k r3 e1
            exact .inl ⟨v, u, _, _, bb, rfl, k1, h1, kitT_of k hgd k2 e2, q bb e2⟩
          have rest : (∀ cs, c ≠ .tup cs) → Po (cg X) E ((match clD cls c with
              | none => .stuck
              | some u => match kitT ty u with | some b => .ok (.bl b) S1 | none => .stuck : R D)) w1 S1 σ H1 (KD (cg X) Q) → rIsiY X.K [v, u] H1 Q := fun _ po2 => by
            cases e1 : clD cls c with
            | none => simp only [e1] at po2; exact po2.elim
            | some uu =>
              simp only [e1] at po2
              cases e2 : kitT ty uu with
              | none => simp only [e2] at po2; exact po2.elim
              | some bb =>
                simp only [e2] at po2
                exact other uu e1 (fun b2 e3 => by rw [e2] at e3; cases e3; exact po2 w1 H1 (.refl ..) s1 _ of_bl) ⟨bb, e2⟩
          cases c with
          | tup cs =>
            simp only [isiF, et] at po1
            cases e1 : clDs cls cs with
            | none => simp only [e1] at po1; exact po1.elim
            | some ts =>
              simp only [e1] at po1
              cases e2 : kitTs ty ts with
              | none => simp only [e2] at po1; exact po1.elim
              | some bb =>
                simp only [e2] at po1
                simp only [Rep] at r3
                obtain ⟨tp, vs, rfl, k1, k2⟩ := r3
                obtain ⟨k3, k4⟩ := clDs_of k k2 e1
                exact .inr ⟨v, tp, vs, _, _, bb, rfl, s1.fz _ _ k1, k3, h1, kitTs_of k hgd k4 e2, po1 w1 H1 (.refl ..) s1 _ of_bl⟩
          | _ =>
            simp only [isiF, et] at po1
            exact rest (fun _ z => nomatch z) po1
end
end Mm
end

section
/-! MmL: own == and != of two values, the left one an instance with an own __eq__. -/
namespace Mm
open PySem L2
open PyProof.Rows (envOfC Fr)
variable [TabCtx]
section
open PySem.W
variable {prog : Program} {w : World} {M : Model} {A : Around} {E : Value → Shared → Prop} {s : Shared} {K : Frag} {x C f : Addr} {ox : Obj} {od : Option Obj} {name : Str} {b tb : Value}
end

section
variable {X : Cx} {CX : CXT} {n : Nat} {C f : Addr} {fd : FuncData} {ps : List Str} {sp : Sp} {E : XK}
def rOwnEq (K : PySem.W.Frag) (C : Addr) (sp : Sp) (E : XK) : R2 := fun x y H Q => ∃ a dx fs t, x = .ref a ∧ H a = some (.ins C dx fs) ∧ TyY K H y t ∧ PySem.W.notFirst K C t = true ∧ sp [x, y] H Q E
def rOwnNe (K : PySem.W.Frag) (C : Addr) (sp : Sp) (E : XK) : R2 := fun x y H Q => ∃ a dx fs t, x = .ref a ∧ H a = some (.ins C dx fs) ∧ TyY K H y t ∧ PySem.W.notFirst K C t = true ∧ sp [x, y] H (fun v H' => ∃ b, v = .bl b ∧ Q (.bl (!b)) H') E
end
/-- a class with an own __eq__, and no own __ne__ -/
structure EqM (P : Program) (w : World) (K : PySem.W.Frag) (mg : Str → Option Value) (base : Heap) (k : Nat) (C : Str) (ps : List Str) (f : F) (cls : List Str) : Prop where
  flat : Flat f
  ex : ∃ (Ca fa : Addr) (fd : FuncData), mg C = some (.ref Ca) ∧ FnOk P w K mg base (L2.CX P w) k fa fd ps (spM (gmOf K mg) ps.length f) ∧ Binds K fd ps [] ∧ PySem.W.findIn K (.ref Ca) "__eq__" = some (some (.ref fa)) ∧ PySem.W.isFn K (.ref fa) = true ∧
    PySem.W.findIn K (.ref Ca) "__ne__" = some (some (.builtin "object.__ne__")) ∧ PySem.W.mroIn K Ca (.type "object") = some true ∧ (∀ t ∈ known, PySem.W.notFirst K Ca (.type t) = true) ∧ ∀ B ∈ cls, ∀ Cb, mg B = some (.ref Cb) → PySem.W.notFirst K Ca (.ref Cb) = true
/-- x == y: x an instance of C, y of a known type -/
def eqOwn (fns cls : List Str) (C : Str) (f : F) (x y : D) : M D := bd (recM C "__eq__" x) fun x => fun S => match tyD fns cls S y with | some _ => inF (f [x, y]) S | none => .stuck
def eqOwnM (fns cls : List Str) (C : Str) (f : F) (ma mb : M D) : M D := bd ma fun x => bd mb fun y => eqOwn fns cls C f x y
def neOwnM (fns cls : List Str) (C : Str) (f : F) (ma mb : M D) : M D := notV (eqOwnM fns cls C f ma mb)
section
variable {X : Cx} {E : XK} {k j : Nat} {C : Str} {ps : List Str} {f : F} {cls fns : List Str} {a b : Expr} {ma mb : M D} {pos : Pos}
end
end Mm
end

section
/-! MmO: what is walked: enumerate, zip. -/
namespace Mm
open PySem L2
open PyProof.Rows (envOfC Fr)
variable [TabCtx]
/-! ### enumerate(tuple) -/
section
open PySem.Sem (wp)
open AutoSeq1 (wpAny_loadPart')
theorem meets_enumerate_newT (l : Addr) (items : Array Value) (n : Nat) (dct : Option Addr) (sl : Array (Option Value)) :
    Meets (Builtin.«enumerate.__new__» ⟨[.type "enumerate", .ref l], []⟩) (fun _ R s => s.heap.get? l = some { cls := .type "tuple", dict := dct, data := .seq items n, slots := sl } ∧
      R (.ok (.ret (.ref (s.heap.push { cls := .type "tuple_iterator", data := .fields #[.ref l, .int 0 0] }).objs.size)))
        { s with heap := (s.heap.push { cls := .type "tuple_iterator", data := .fields #[.ref l, .int 0 0] }).push { cls := .type "enumerate", data := .fields #[.none, .bool false, .ref s.heap.objs.size, rawInt 0, .none, .none] } }) :=
  .of_wp fun prog w A R s h => by
    obtain ⟨hp, g, d, tk, os⟩ := s; obtain ⟨hl, h⟩ := h
    have hsub := sub_enumerate
    have hL : Heap.IsTuple (Shared.heap ⟨hp, g, d, tk, os⟩) l items := ⟨_, hl, rfl, n, rfl⟩
    wp_walk using wpAny_loadPart' hl
    refine wpAny_stack_any fun st => wpAny_pure ?_
    split
    · rename_i c _ _ _ _ _
      cases (c == Value.type "enumerate")
      · wp_walk using wpAny_loadPart' hl, wpAny_pyIter_tuple hL
        exact ⟨_, rfl, h⟩
      · wp_walk using wpAny_loadPart' hl, wpAny_pyIter_tuple hL
        exact ⟨_, rfl, h⟩
    · wp_walk using wpAny_loadPart' hl, wpAny_pyIter_tuple hL
      exact ⟨_, rfl, h⟩
theorem call_enumerate_tuple {prog : Program} {w : World} {A : Around} {E : Value → Shared → Prop} {s : Shared} {l : Addr} {items : Array Value} {Q : Value → Shared → Prop} (hL : s.heap.IsTuple l items)
    (h : ∀ h', IsEnum h' (s.heap.objs.size + 1) s.heap.objs.size 0 .none → h'.IsTupleIter s.heap.objs.size l 0 → h'.objs.size = s.heap.objs.size + 2 →
      (∀ b o, s.heap.get? b = some o → h'.get? b = some o) → Q (.ref (s.heap.objs.size + 1)) { s with heap := h' }) :
    wpAny (model prog w) A (call (.type "enumerate") [.ref l]) Q E s := by
  obtain ⟨⟨c, dct, dt, sl⟩, hl, hc, n, hd⟩ := hL
  replace hc : c = .type "tuple" := hc
  replace hd : dt = .seq items n := hd
  subst hc hd
  refine callType_new F.called_enumerate (by decide) (F.typeCall_enumerate_1 _) (F.newCall_enumerate_1 _) (fun obj => F.args_object_init_2 obj _) F.entry_enumerate_new
    (meets_enumerate_newT l items n dct sl) ⟨hl, ?_⟩
  have hz : (s.heap.push { cls := .type "tuple_iterator", data := .fields #[.ref l, .int 0 0] }).objs.size = s.heap.objs.size + 1 := Heap.size_push ..
  show _ ∧ _
  rw [hz]
  have he : IsEnum ((s.heap.push { cls := .type "tuple_iterator", data := .fields #[.ref l, .int 0 0] }).push
      { cls := .type "enumerate", data := .fields #[.none, .bool false, .ref s.heap.objs.size, rawInt 0, .none, .none] }) (s.heap.objs.size + 1) s.heap.objs.size 0 .none := by
    have := Heap.get?_push_size (s.heap.push { cls := .type "tuple_iterator", data := .fields #[.ref l, .int 0 0] })
      (o := { cls := .type "enumerate", data := .fields #[.none, .bool false, .ref s.heap.objs.size, rawInt 0, .none, .none] }) rfl
    rw [hz] at this; exact this
  refine ⟨⟨_, he, rfl⟩, h _ he ⟨_, Heap.get?_push_of_some _ (Heap.get?_push_size _ rfl), rfl, rfl⟩ (by rw [Heap.size_push, hz]) fun b o x => Heap.get?_push_of_some _ (Heap.get?_push_of_some _ x)⟩
end
def IteT (K : PySem.W.Frag) (a : Addr) : It :=
  ⟨fun i H => ∃ (xs : List V) (x : V), SqT K H a xs ∧ xs[i]? = some x, fun i H v H' => ∃ T x, v = .ref T ∧ H T = none ∧ H' = upd H T (.tup [.int (i : Nat), x]) ∧ ∀ xs, SqT K H a xs → xs[i]? = some x, fun i H => ∃ xs : List V, SqT K H a xs ∧ xs.length ≤ i⟩
section
open PySem.Spec PyProof.Rows
theorem turn_enumT {P : Program} {w : World} {K : PySem.W.Frag} {elts : List Expr} {kk : Nat} {tpos : Pos} (a e it : Addr) (hai : a ≠ it) (hea : e ≠ a) :
    Turn P w K (.Tuple elts kk tpos) (IteT K a) [e, it] e (fun i h => (∃ old, IsEnum h e it ((i : Nat) : Int) old) ∧ h.IsTupleIter it a i ∧ e ≠ it) where
  mem := by simp
  obj := fun i h st b hb => by
    obtain ⟨⟨old, he⟩, ⟨o, ho, hc, hd⟩, _⟩ := st
    have e' : b = e ∨ b = it := by simpa using hb
    rcases e' with z | z
    · rw [z]; exact ⟨_, he, fun v q => nomatch q⟩
    · rw [z]; exact ⟨o, ho, fun v q => by rw [hd] at q; cases q⟩
  keep := fun i h h' st k => let ⟨⟨old, he⟩, hi, hne⟩ := st; ⟨⟨old, k e (by simp) _ he⟩, hi.at fun o q => k it (by simp) o q, hne⟩
  item := by
    intro X hP hw hK hc i pins s σ H E I hf st hg
    subst hP hw hK
    obtain ⟨⟨old, he⟩, hit, hne⟩ := st
    obtain ⟨xs, x, hq, hx⟩ := hg
    obtain ⟨its, rv, p, hz⟩ := I.tuple hq
    obtain ⟨u, hu, ru⟩ := rv.get hx
    have hel : e < s.heap.objs.size := Heap.lt_size he
    have hil : it < s.heap.objs.size := by obtain ⟨_, q, _⟩ := hit; exact Heap.lt_size q
    have hlt : i < its.toArray.size := by
      have := (List.getElem?_eq_some_iff.mp hu).1
      simpa using this
    refine wpAny_pyNext_enum_itemD (Draws.tuple (A := X.A.in1) (I.ok.hd hc) it a hai its.toArray) he ⟨hit, p⟩ hlt hne (by simp; exact ⟨hne, hea⟩) fun v h' tk hv ho hst hT hsz hk => ?_
    have hv : its.toArray[i]? = some v := hv
    have huv : v = u := by
      rw [List.getElem?_toArray] at hv
      rw [hu] at hv; cases hv; rfl
    subst huv
    refine ⟨_, rfl, wpAny_letOwnedTupleGo_enum (s := { s with heap := h', toks := tk + 1 }) ho fun h'' he' sb => ?_⟩
    have hT2 : h''.get? s.heap.objs.size = some { cls := .type "tuple", data := .seq #[.int i tk, v] } := (sb.2 _ (Nat.ne_of_gt hel)).trans hT
    have new : ObjOk X.prog X.w (upd H s.heap.objs.size (.tup [.int (i : Nat), x])) h'' s.heap.objs.size (.tup [.int (i : Nat), x]) :=
      ⟨by show 2 ≤ sizeLine; decide, [.int i tk, v], .cons ⟨_, rfl⟩ (.cons ru .nil), ⟨_, hT2, rfl, _, rfl⟩⟩
    have I1 : Inv X pins σ (upd H s.heap.objs.size (.tup [.int (i : Nat), x])) { s with heap := h'', toks := tk + 1 } :=
      I.turnedNew (ch := [e, it]) (fun b ob hb q => (sb.2 b (fun z => hb (by simp [z]))).trans (hk b ob (fun z => hb (by simp [z])) (fun z => hb (by simp [z])) q)) hf (Nat.le_refl _) new
    refine ⟨.ref s.heap.objs.size, _, I1, rfl, ⟨_, x, rfl, I.hok.fresh (Nat.le_refl _), rfl, fun ys hy => by rw [I.tuple_inj hy hq]; exact hx⟩, ⟨⟨v, ?_⟩, hst.1.at fun o q => (sb.2 it (Ne.symm hne)).trans q, hne⟩, fun b hb => ?_⟩
    · have e1 : ((i + 1 : Nat) : Int) = (i : Int) + 1 := by omega
      rw [e1]; exact he'
    · have hb' : b < s.heap.objs.size := by
        have e' : b = e ∨ b = it := by simpa using hb
        rcases e' with z | z
        · rw [z]; exact hel
        · rw [z]; exact hil
      rw [upd_ne (Nat.ne_of_lt hb')]
      exact (hf b hb).1
  done := by
    intro X hP hw hK hc i pins s σ H E I hf st hg
    subst hP hw hK
    obtain ⟨⟨old, he⟩, hit, hne⟩ := st
    obtain ⟨xs, hq, hx⟩ := hg
    obtain ⟨its, rv, p, hz⟩ := I.tuple hq
    obtain ⟨f0, f1, f2, f3, f4, f5⟩ := hf it (by simp)
    have hl := rv.length
    have hT : s.TypeIs (.ref e) "enumerate" := ⟨_, he, rfl⟩
    unfold pyNext
    refine wpAny_bind (wpAny_attempt (wpAny_callSpecial?_slot (name := Str.ofString "__next__") hT F.slot_enumerate_next
      (wpAny_call_entry F.slot_enumerate_next hT F.entry_enumerate_next ?_ (F.args_enumerate_next_1 _))))
    show wpAny _ _ (field (.ref e) 2 >>= _) _ _ _
    refine wpAny_bind (wpAny_field he rfl (x := .ref it) rfl ?_)
    refine wpAny_bind (wpAny_nextOf_tuple_end (A := X.A.in1) (I.ok.hd hc) hit (show s.heap.IsTuple a its.toArray from p) (by simp; omega) fun h' x he' hx' => ?_)
    obtain ⟨o, ho, hcx⟩ := hx'
    refine wpAny_bind (wpAny_isInstance (T := "StopIteration") (b := true) ⟨o, ho, hcx⟩ isSubtype_stop ?_)
    exact wpAny_pure ⟨rfl, I.turned (t' := s.toks) (fun b o hb q => he' b o hb q) f0 f1 f3 f4 f5⟩
  self := fun A i s Q E st h => let ⟨⟨_, he⟩, _⟩ := st; wpAny_pyIter_enum he h
def iEnumA (K : PySem.W.Frag) (ta : TA) : TI := fun σ H R => ta σ H fun vs H1 => ∃ a xs, vs = [.ref a] ∧ ((SqL K H1 a xs ∧ R (Ite K a) H1) ∨ (SqT K H1 a xs ∧ R (IteT K a) H1))
theorem pi_enumA {X : Cx} {e : Expr} {ta : TA} {p pos tpos : Pos} {elts : List Expr} {kk : Nat} (hg : Gl X "enumerate") (hm : X.mg "enumerate" = none) (ha : PA X [e] ta) (hs : starEach [e] X.env = [(false, eval e X.env)] := by rfl) :
    PI X (.Tuple elts kk tpos) (.Call (.Name "enumerate" p) [e] [] pos) (iEnumA X.K ta) := by
  refine ⟨fun pins s σ H R I h => ?_⟩
  refine Call_ (ld_blt I hg hm boot_enumerate (PyProof.Rows.callWith_type1 (thn (ha.run pos pins s σ H _ I h) fun us s1 ⟨vs, H1, I1, r1, q1⟩ => ?_) hs rfl))
  obtain ⟨a, xs, ex, q⟩ := q1
  subst ex
  cases r1 with
  | cons r rr =>
    cases rr
    cases r
    have fresh2 : ∀ b, b ∈ [s1.heap.objs.size + 1, s1.heap.objs.size] → FpOk X pins H1 b := fun b hb => by
      have e' : b = s1.heap.objs.size + 1 ∨ b = s1.heap.objs.size := by simpa using hb
      have hle : s1.heap.objs.size ≤ b := by
        rcases e' with z | z
        · rw [z]; exact Nat.le_add_right _ _
        · rw [z]; exact Nat.le_refl _
      exact I1.fpOk hle (I1.hok.fresh hle)
    rcases q with ⟨hq, q⟩ | ⟨hq, q⟩
    · obtain ⟨its, rv, p', hz⟩ := I1.list hq
      refine call_enumerate_list p'.isList fun h' he hit hsz hk => wpAny_pyIter_enum he ?_
      have I2 : Inv X pins σ H1 { s1 with heap := h' } := I1.kept (t' := s1.toks) hk
      exact ⟨s1.heap.objs.size + 1, [s1.heap.objs.size + 1, s1.heap.objs.size], _, _, H1, rfl, I2, turn_enum a (s1.heap.objs.size + 1) s1.heap.objs.size, ⟨⟨.none, he⟩, hit, Nat.succ_ne_self _⟩, fresh2, q⟩
    · obtain ⟨its, rv, p', hz⟩ := I1.tuple hq
      obtain ⟨o, ho, _⟩ := id p'
      have hlt := Heap.lt_size ho
      refine call_enumerate_tuple (show s1.heap.IsTuple a its.toArray from p') fun h' he hit hsz hk => wpAny_pyIter_enum he ?_
      have I2 : Inv X pins σ H1 { s1 with heap := h' } := I1.kept (t' := s1.toks) hk
      exact ⟨s1.heap.objs.size + 1, [s1.heap.objs.size + 1, s1.heap.objs.size], _, _, H1, rfl, I2, turn_enumT a (s1.heap.objs.size + 1) s1.heap.objs.size (Nat.ne_of_lt hlt) (Nat.ne_of_gt (Nat.lt_succ_of_lt hlt)), ⟨⟨.none, he⟩, hit, Nat.succ_ne_self _⟩, fresh2, q⟩
end

/-! ### the sources -/
def enFrom (k : Nat) : List D → List D
  | [] => []
  | d :: ds => .tup [.int (k : Nat), d] :: enFrom (k + 1) ds
section
variable {c : Gm} {w : Wd} {S : Sg} {σ : FSt} {H : Hp}
theorem new_tup (s : Sim c w S σ H) {ds : List D} {vs : List V} {T : Addr} (hT : H T = none) (r : Reps c w ds vs) : ∃ w', Step w S σ H w' S σ (upd H T (.tup vs)) ∧ Sim c w' S σ (upd H T (.tup vs)) ∧ Rep c w' (.tup ds) (.ref T) := by
  have hf := s.nofz hT
  have s1 := s.laid (.tup vs) hT
  have hm : ¬ Mu w S σ T := fun m => by
    obtain ⟨_, o, e⟩ := s.mu m
    rw [hT] at e; cases e
  refine ⟨w.add T (.tup vs), Step.freeze (Step.laid w S σ (.tup vs) hT) (nn_none hT) hf, s1.freeze upd_same hf hm, ?_⟩
  simp only [Rep]
  exact ⟨T, vs, rfl, upd_same, Reps.mono (.add hf) _ _ r⟩
def zipD : List D → List D → List D := List.zipWith fun x y => .tup [x, y]
theorem zip_get {i : Nat} {dd : D} {xs ys : List D} (h : (zipD xs ys)[i]? = some dd) : ∃ x y, xs[i]? = some x ∧ ys[i]? = some y ∧ dd = .tup [x, y] := by
  unfold zipD at h
  rw [List.getElem?_zipWith] at h
  cases e1 : xs[i]? with
  | none => rw [e1] at h; simp at h
  | some x =>
    cases e2 : ys[i]? with
    | none => rw [e1, e2] at h; simp at h
    | some y => rw [e1, e2] at h; simp at h; exact ⟨x, y, rfl, rfl, h.symm⟩
theorem src_zip {w0 : Wd} {d1 d2 : D} {b : Bool} {xs ys : List D} {a1 a2 : Addr} (h1 : Rep c w0 d1 (.ref a1)) (h2 : Rep c w0 d2 (.ref a2)) :
    SrcOk c w0 (if b = true then Itz c.K a1 a2 else RZ.ItzT c.K a1 a2) ⟨zipD xs ys, fun S' => vwD S' d1 = some (b, xs) ∧ vwD S' d2 = some (b, ys)⟩ := fun i w S σ H l s hx => by
  obtain ⟨a', vs, e, k1, k2⟩ := vwR_of s (Rep.mono l _ _ h1) hx.1
  cases e
  obtain ⟨a', us, e, m1, m2⟩ := vwR_of s (Rep.mono l _ _ h2) hx.2
  cases e
  have go : ∀ dd, (zipD xs ys)[i]? = some dd → ∃ x y v u, dd = .tup [x, y] ∧ vs[i]? = some v ∧ us[i]? = some u ∧ Rep c w x v ∧ Rep c w y u := fun dd hd => by
    obtain ⟨x, y, e1, e2, e3⟩ := zip_get hd
    obtain ⟨v, hv, rv⟩ := k2.get e1
    obtain ⟨u, hu, ru⟩ := m2.get e2
    exact ⟨x, y, v, u, e3, hv, hu, rv, ru⟩
  have stop : (zipD xs ys).length ≤ i → vs.length ≤ i ∨ us.length ≤ i := fun hi => by
    unfold zipD at hi
    rw [List.length_zipWith, k2.length, m2.length] at hi
    omega
  cases b with
  | true =>
    have hs : SqL c.K H a1 vs := .inl (.inl k1)
    have ht : SqL c.K H a2 us := .inl (.inl m1)
    refine ⟨fun dd hd => ?_, fun hi => ⟨vs, us, hs, ht, stop hi⟩⟩
    obtain ⟨x, y, v, u, rfl, hv, hu, rv, ru⟩ := go dd hd
    refine ⟨⟨vs, us, v, u, hs, ht, hv, hu⟩, fun z H' hz => ?_⟩
    obtain ⟨T, x', y', rfl, hT, rfl, q1, q2⟩ := hz
    have z1 := q1 vs hs
    have z2 := q2 us ht
    rw [hv] at z1; cases z1
    rw [hu] at z2; cases z2
    exact new_tup s hT (.cons rv (.cons ru .nil))
  | false =>
    have hs : SqT c.K H a1 vs := .inl (.inl k1)
    have ht : SqT c.K H a2 us := .inl (.inl m1)
    refine ⟨fun dd hd => ?_, fun hi => ⟨vs, us, hs, ht, stop hi⟩⟩
    obtain ⟨x, y, v, u, rfl, hv, hu, rv, ru⟩ := go dd hd
    refine ⟨⟨vs, us, v, u, hs, ht, hv, hu⟩, fun z H' hz => ?_⟩
    obtain ⟨T, x', y', rfl, hT, rfl, q1, q2⟩ := hz
    have z1 := q1 vs hs
    have z2 := q2 us ht
    rw [hv] at z1; cases z1
    rw [hu] at z2; cases z2
    exact new_tup s hT (.cons rv (.cons ru .nil))
end
def enumS (d : D) : M Src := fun S => match vwD S d with
  | some x => .ok ⟨enFrom 0 x.2, fun S' => vwD S' d = some x⟩ S
  | none => .stuck
def zipS (d1 d2 : D) : M Src := fun S => match vwD S d1, vwD S d2 with
  | some (b, xs), some (b', ys) => if b = b' then .ok ⟨zipD xs ys, fun S' => vwD S' d1 = some (b, xs) ∧ vwD S' d2 = some (b, ys)⟩ S else .stuck
  | _, _ => .stuck
section
variable {X : Cx} {E : XK} {pos p tpos : Pos} {e e2 : Expr} {elts : List Expr} {kk : Nat} {m m2 : M D}
theorem mi_zip (hg : Gl X "zip") (hm : X.mg "zip" = none) (he : PE X e (TM (cg X) E m)) (he2 : PE X e2 (TM (cg X) E m2)) (hs : starEach [e, e2] X.env = (false, eval e X.env) :: starEach [e2] X.env := by rfl) (hs2 : starEach [e2] X.env = [(false, eval e2 X.env)] := by rfl) :
    PI X (.Tuple elts kk tpos) (.Call (.Name "zip" p) [e, e2] [] pos) (TIm (cg X) E (bd m fun x => bd m2 fun y => zipS x y)) := by
  refine PI.weak (RZ.pi_zipA hg hm (pa_cons he (pa_cons he2 pa_nil hs2) hs) hs (by rw [hs2] <;> rfl)) fun σ H R ⟨w, S, s, po⟩ => ?_
  refine ⟨w, S, s, Po.two (k := fun x => bd m2 fun y => zipS x y) po fun d w1 S1 H1 st1 s1 po1 v r => ?_⟩
  refine ⟨w1, S1, s1, Po.two (k := fun y => zipS d y) po1 fun d2 w2 S2 H2 st2 s2 po2 v2 r2 => ?_⟩
  have r := Rep.mono st2.le _ _ r
  unfold zipS at po2
  cases ev : vwD S2 d with
  | none => simp only [ev] at po2; exact po2.elim
  | some x =>
    cases ev2 : vwD S2 d2 with
    | none => simp only [ev, ev2] at po2; exact po2.elim
    | some y =>
      obtain ⟨b, xs⟩ := x
      obtain ⟨b', ys⟩ := y
      simp only [ev, ev2] at po2
      by_cases z : b = b'
      · rw [if_pos z] at po2
        subst z
        obtain ⟨a, vs, rfl, k1, k2⟩ := vwR_of s2 r ev
        obtain ⟨a2, us, rfl, m1, m2⟩ := vwR_of s2 r2 ev2
        refine ⟨a, a2, vs, us, rfl, ?_⟩
        have q := po2 w2 H2 (.refl ..) s2 _ (src_zip r r2)
        cases b with
        | true => exact .inl ⟨seqL_t k1, seqL_t m1, q⟩
        | false => exact .inr ⟨seqL_f k1, seqL_f m1, q⟩
      · rw [if_neg z] at po2; exact po2.elim
end
end Mm
end

section
/-! MmP: dicts: displays, comprehensions, len; keywords. -/
namespace Mm
open PySem L2
open PyProof.Rows (envOfC Fr)
variable [TabCtx]
section
variable {X : Cx} {E : XK} {pos p : Pos} {e : Expr} {mc : M Cell}
theorem mc_dK : PE X (.Dict [] [] pos) (TC (cg X) E (ret (.dK []))) := by
  refine PE.weak pe_dnewK fun σ H Q ⟨w, S, s, po⟩ p hp => ?_
  exact Po.newAt s po hp ⟨[], upd_same, rfl, .nil⟩
/-- len of a new object -/
def lenC : Cell → M D
  | .lst xs => ret (.int xs.length)
  | .dK kvs => ret (.int kvs.length)
  | .dT kvs => ret (.int kvs.length)
  | .ins _ _ => nope
def rLenA (K : PySem.W.Frag) : List V → Hp → VK → Prop := fun xs H Q => (∃ p ys, xs = [.ref p] ∧ (SqL K H p ys ∨ SqT K H p ys) ∧ Q (.int ys.length) H) ∨ (∃ a kvs, xs = [V.ref a] ∧ H a = some (.dK kvs) ∧ Q (.int kvs.length) H) ∨ rLenT xs H Q
theorem call_lenA : CallR X (.builtin "len") (rLenA X.K) := by
  intro pins s σ H xs us Q I r h
  rcases h with h | h | h
  · exact call_len_seq pins s σ H xs us Q I r h
  · exact call_lenD pins s σ H xs us Q I r h
  · exact call_len_dT pins s σ H xs us Q I r h
theorem len_of {c : Gm} {K : PySem.W.Frag} {w : Wd} {S : Sg} {σ : FSt} {H : Hp} {a : Addr} {x : Cell} {Q : VK} (s : Sim c w S σ H) (hc : CellR c w H a x) (po : Po c E (lenC x S) w S σ H (KD c Q)) : rLenA K [.ref a] H Q := by
  cases x with
  | lst xs =>
    obtain ⟨vs, h1, h2⟩ := hc
    refine .inl ⟨a, vs, rfl, .inl (.inl (.inl h1)), ?_⟩
    rw [← h2.length]
    exact po w H (.refl ..) s _ of_int
  | dK kvs =>
    obtain ⟨ys, h1, h2, h3⟩ := hc
    refine .inr (.inl ⟨a, ys, rfl, h1, ?_⟩)
    rw [← tab_len (c := c) (w := w) ⟨h2, h3⟩]
    exact po w H (.refl ..) s _ of_int
  | dT kvs =>
    obtain ⟨ys, h1, h2, h3⟩ := hc
    refine .inr (.inr ⟨a, ys, rfl, h1, ?_⟩)
    rw [← tab_len (c := c) (w := w) ⟨h2, h3⟩]
    exact po w H (.refl ..) s _ of_int
  | ins _ _ => exact po.elim
theorem me_lenC (hg : Gl X "len") (hm : X.mg "len" = none) (he : PE X e (TC (cg X) E mc)) (h1' : starEach [e] X.env = [(false, eval e X.env)] := by rfl) : PE X (.Call (.Name "len" p) [e] [] pos) (TM (cg X) E (bd mc lenC)) := by
  refine PE.weak (pe_callB call_lenA hg hm rfl (pa_cons he pa_nil h1') (by decide) (by decide) h1' (by rfl)) fun σ H Q ⟨w, S, s, po⟩ => ?_
  refine ⟨w, S, s, ?_⟩
  have po : Po (cg X) E ((mc S).bind lenC) w S σ H (KD (cg X) Q) := po
  cases e : mc S with
  | ok x S' =>
    rw [e] at po
    intro w' H' st s' q hq hc hf hm'
    exact len_of s' hc (Po.rebase st po)
  | exc C fs S' => rw [e] at po; exact po
  | stuck => rw [e] at po; exact po
/-- len of what stands at a place -/
def lenP (P : Pl) : M D := fun S => match getP P S with | some x => lenC x S | none => .stuck
end

/-! ### {k: v for .. in .. if ..}, keys ints or texts -/
open Classical in
noncomputable def dcG (T : Tg) (vs : List Nat) (t : M Bool) (k v : M D) (ok : Sg → Prop) : List D → List (Key × D) → M (List (Key × D))
  | [], acc => fun S => if ok S then .ok acc S else .stuck
  | d :: ds, acc => fun S => if ok S then (match asg T d (inner vs S) with
    | none => .stuck
    | some S1 => match t S1 with
      | .ok true S2 => match k S2 with
        | .ok y S3 => match v S3 with
          | .ok z S4 => match keyD y with
            | some q => if acc.length < sizeLine then dcG T vs t k v ok ds (putA acc q z) (outer vs S S4) else .stuck
            | none => .stuck
          | _ => .stuck
        | _ => .stuck
      | .ok false S2 => dcG T vs t k v ok ds acc (outer vs S S2)
      | _ => .stuck) else .stuck
noncomputable def dcM (src : M Src) (T : Tg) (vs : List Nat) (t : M Bool) (k v : M D) : M Cell := bd src fun s S => if noOwn S.sl vs = true ∧ (∀ i ∈ T.ix, i ∈ vs) then ((dcG T vs t k v s.ok s.ds [] S).bind fun acc => ret (.dK acc)) else .stuck
section
variable {X : Cx} {E : XK} {pos : Pos}
theorem tdc_of {src : M Src} {T : Tg} {mt : M Bool} {mk mv : M D} {vs : List Nat} : ∀ σ H Q, TC (cg X) E (dcM src T vs mt mk mv) σ H Q → tDc (TIm (cg X) E src) (gT (cg X) T) (TB (cg X) E0 mt) (TM (cg X) E0 mk) (TM (cg X) E0 mv) vs σ H Q := by
  rintro σ H Q ⟨w, S, s, po⟩
  unfold dcM at po
  refine ⟨w, S, s, Po.two po fun sr w1 S1 H1 st1 s1 po1 J hJ => ?_⟩
  obtain ⟨ds, ok⟩ := sr
  by_cases hno : noOwn S1.sl vs = true ∧ (∀ i ∈ T.ix, i ∈ vs)
  case neg => rw [if_neg hno] at po1; exact po1.elim
  rw [if_pos hno] at po1
  obtain ⟨no, hix⟩ := hno
  intro Da hD
  have hDs : Nn H Da := st1.th Da (nn_none hD)
  obtain ⟨Kf, hK⟩ : ∃ Kf : Cell → Wd → Sg → Hp → Prop, Kf = fun x w' S' H' => ∀ p, Nn H p → CellR (cg X) w' H' p x → w'.Hf p = none → ¬ Mu w' S' σ p → Q (.ref p) H' := ⟨_, rfl⟩
  rw [← hK] at po1
  refine ⟨fun i m H2 => m = ds.length - i ∧ i ≤ ds.length ∧ ∃ w2 S2 acc av, Sim (cg X) w2 S2 σ H2 ∧ noOwn S2.sl vs = true ∧ H2 Da = some (.dK av) ∧ TabR (cg X) w2 acc av ∧ w2.Hf Da = none ∧ ¬ Mu w2 S2 σ Da ∧
      Step w1 S1 σ H1 w2 S2 σ H2 ∧ Po (cg X) E ((dcG T vs mt mk mv ok (ds.drop i) acc S2).bind fun acc => ret (Cell.dK acc)) w1 S1 σ H1 Kf, ⟨ds.length, ?_⟩, ?_⟩
  · have stD := Step.laid w1 S1 σ (.dK []) hD
    refine ⟨by simp, Nat.zero_le _, w1, S1, [], [], s1.laid _ hD, no, upd_same, tab_nil, s1.nofz hD, fun m => ?_, stD, po1⟩
    obtain ⟨_, o, e⟩ := s1.mu m
    rw [hD] at e; cases e
  · rintro i m H2 ⟨rfl, hil, w2, S2, acc, av, s2, no2, hA, rA, fA, mA, st2, po2⟩
    have hok : ok S2 := by
      refine Classical.byContradiction fun z => ?_
      cases e : ds.drop i with
      | nil => rw [e] at po2; simp only [dcG, if_neg z] at po2; exact po2
      | cons d t => rw [e] at po2; simp only [dcG, if_neg z] at po2; exact po2
    obtain ⟨go, stop⟩ := hJ i w2 S2 σ H2 st2.le s2 hok
    by_cases hlt : i < ds.length
    case neg =>
      have e : i = ds.length := by omega
      subst e
      refine .inl ⟨stop (Nat.le_refl _), ?_⟩
      rw [List.drop_length] at po2
      simp only [dcG, if_pos hok] at po2
      have q := po2 w2 H2 st2 s2
      rw [hK] at q
      exact q Da hDs ⟨av, hA, rA.1, rA.2⟩ fA mA
    have hd : ds[i]? = some ds[i] := List.getElem?_eq_getElem hlt
    obtain ⟨g1, g2⟩ := go _ hd
    refine .inr ⟨g1, fun H3 => ∃ m', m' < ds.length - i ∧ (m' = ds.length - (i + 1) ∧ i + 1 ≤ ds.length ∧ ∃ w2 S2 acc av, Sim (cg X) w2 S2 σ H3 ∧ noOwn S2.sl vs = true ∧ H3 Da = some (.dK av) ∧ TabR (cg X) w2 acc av ∧ w2.Hf Da = none ∧ ¬ Mu w2 S2 σ Da ∧
      Step w1 S1 σ H1 w2 S2 σ H3 ∧ Po (cg X) E ((dcG T vs mt mk mv ok (ds.drop (i + 1)) acc S2).bind fun acc => ret (Cell.dK acc)) w1 S1 σ H1 Kf), fun _ h => h, fun x H' y => ?_⟩
    obtain ⟨w3, st3, s3, r3⟩ := g2 x H' y
    rw [List.drop_eq_getElem_cons hlt] at po2
    simp only [dcG, if_pos hok] at po2
    cases ea : asg T ds[i] (inner vs S2) with
    | none => simp only [ea] at po2; exact po2.elim
    | some S4 =>
      simp only [ea] at po2
      refine ⟨w3, inner vs S2, ds[i], S4, s3.inner, r3, ea, fun σ4 k4 => ?_⟩
      have out4 : ∀ j, j ∉ vs → σ4[j]? = σ[j]? := fun j hj => (k4.out j fun z => hj (hix j z)).trans (wipe_out' hj)
      have len4 : σ4.length = σ.length := k4.len.trans (wipe_length σ vs)
      have stI : Step w2 S2 σ H2 w3 S4 σ4 H' := (st3.trans (Step.inner s3)).trans k4.st
      refine ⟨wipe_eq out4 len4, w3, S4, k4.sim, ?_⟩
      have back : ∀ {w5 : Wd} {S5 : Sg} {H5 : Hp}, Step w3 S4 σ4 H' w5 S5 σ4 H5 → Sim (cg X) w5 S5 σ4 H5 → Step w2 S2 σ H2 w5 (outer vs S2 S5) σ H5 ∧ Sim (cg X) w5 (outer vs S2 S5) σ H5 ∧ noOwn (outer vs S2 S5).sl vs = true ∧ H5 Da = some (.dK av) ∧ w5.Hf Da = none ∧ ¬ Mu w5 (outer vs S2 S5) σ Da := fun {w5 S5 H5} st5 s5 => by
        have so := s2.outer no2 (stI.le.trans st5.le) s5 out4 len4
        have sto : Step w2 S2 σ H2 w5 (outer vs S2 S5) σ H5 := (stI.trans st5).trans (Step.outer no2 out4)
        obtain ⟨b1, b2, b3⟩ := sto.keep Da _ hA .dK fA mA
        refine ⟨sto, so, List.all_eq_true.mpr fun v hv => ?_, b1, b2, b3⟩
        cases hs : (outer vs S2 S5).sl[v]? with
        | none => rfl
        | some z =>
          cases z with
          | own x => exact absurd hv (outer_own no2 hs).1
          | emp => rfl
          | val d => rfl
      cases et : mt S4 with
      | stuck => simp only [et] at po2; exact po2.elim
      | exc _ _ _ => simp only [et] at po2; exact po2.elim
      | ok b S5 =>
        simp only [et] at po2
        intro w5 H5 st5 s5
        cases b with
        | false =>
          obtain ⟨b1, b2, b3, b4, b5, b6⟩ := back st5 s5
          exact ⟨_, by omega, rfl, hlt, w5, _, acc, av, b2, b3, b4, ⟨rA.1, Reps.mono b1.le _ _ rA.2⟩, b5, b6, st2.trans b1, po2⟩
        | true =>
          refine ⟨w5, S5, s5, ?_⟩
          cases ey : mk S5 with
          | stuck => simp only [ey] at po2; exact po2.elim
          | exc _ _ _ => simp only [ey] at po2; exact po2.elim
          | ok y S6 =>
            simp only [ey] at po2
            intro w6 H6 st6 s6 vy ry
            refine ⟨w6, S6, s6, ?_⟩
            cases ez : mv S6 with
            | stuck => simp only [ez] at po2; exact po2.elim
            | exc _ _ _ => simp only [ez] at po2; exact po2.elim
            | ok z S7 =>
              simp only [ez] at po2
              intro w7 H7 st7 s7 vz rz
              cases ek : keyD y with
              | none => simp only [ek] at po2; exact po2.elim
              | some q =>
                simp only [ek] at po2
                obtain ⟨b1, b2, b3, b4, b5, b6⟩ := back ((st5.trans st6).trans st7) s7
                by_cases hz : acc.length < sizeLine
                case neg => rw [if_neg hz] at po2; exact po2.elim
                rw [if_pos hz] at po2
                have rA7 : TabR (cg X) w7 acc av := ⟨rA.1, Reps.mono b1.le _ _ rA.2⟩
                have T' := tab_put (k := q) rA7 rz
                refine ⟨av, q, keyD_of ry ek, b4, by rw [← tab_len rA]; exact hz, _, by omega, rfl, hlt, w7, _, putA acc q z, putK av q vz, b2.loose b5 b6 (nt_dK b4), b3, upd_same, T', b5, b6, ?_, po2⟩
                have stL : Step w1 S1 σ H1 w7 (outer vs S2 S7) σ H7 := st2.trans b1
                exact ⟨stL.le, fun a o h1 n h2 h3 => by
                  obtain ⟨q1, q2, q3⟩ := stL.keep a o h1 n h2 h3
                  exact ⟨by rw [upd_ne (ne_of_none h1 hD)]; exact q1, q2, q3⟩, fun a h => stL.th a (upd_th .dK a h)⟩
variable {kx vx tg iter : Expr} {ifs : List Expr} {scope : Scope} {own : List (Str × Nat)} {src : M Src} {T : Tg} {mt : M Bool} {mk mv : M D}
theorem mc_dc (hc : X.calm = true) (hN : X.N.Nodup) (hi : PI X tg iter (TIm (cg X) E src)) (ok : BlkOk X.N X.env.scope scope own)
    (hg : ∀ (s : Shared) (H : Hp) (C : Addr) (cl : List (Str × Addr)) (fp : List Addr), PG (X.blk s H scope (compEnvC scope cl C X.env) fp) tg (gT (cg X) T))
    (ht : ∀ (s : Shared) (H : Hp) (C : Addr) (cl : List (Str × Addr)) (fp : List Addr), PTs (X.blk s H scope (compEnvC scope cl C X.env) fp) ifs (TB (cg X) E0 mt))
    (hk : ∀ (s : Shared) (H : Hp) (C : Addr) (cl : List (Str × Addr)) (fp : List Addr), PE (X.blk s H scope (compEnvC scope cl C X.env) fp) kx (TM (cg X) E0 mk))
    (hv : ∀ (s : Shared) (H : Hp) (C : Addr) (cl : List (Str × Addr)) (fp : List Addr), PE (X.blk s H scope (compEnvC scope cl C X.env) fp) vx (TM (cg X) E0 mv))
    (hs : ∀ x, foldedSetIterable iter X.env x = pure x := by intro _; rfl) : PE X (.DictComp kx vx [⟨tg, iter, ifs, 0⟩] scope pos) (TC (cg X) E (dcM src T (own.map (·.2)) mt mk mv)) :=
  PE.weak (pe_dc hc hN hi ok hg ht hk hv hs) tdc_of
end

/-! ### keywords -/
def perm {α : Type} (idx : List Nat) (l : List α) : List α := idx.filterMap (l[·]?)
theorem perm_reps {c : Gm} {w : Wd} {ds : List D} {vs : List V} (r : Reps c w ds vs) : ∀ (idx : List Nat), Reps c w (perm idx ds) (perm idx vs)
  | [] => .nil
  | i :: is => by
    unfold perm
    rw [List.filterMap_cons, List.filterMap_cons]
    cases e : ds[i]? with
    | none =>
      have : vs[i]? = none := by
        have h := List.getElem?_eq_none_iff.mp e
        exact List.getElem?_eq_none_iff.mpr (by rw [← r.length]; exact h)
      rw [this]
      exact perm_reps r is
    | some d =>
      obtain ⟨v, hv, rv⟩ := r.get e
      rw [hv]
      exact .cons rv (perm_reps r is)
theorem perm_vals {vs : List V} {us : List Value} (r : Vals vs us) : ∀ (idx : List Nat), Vals (perm idx vs) (perm idx us)
  | [] => .nil
  | i :: is => by
    unfold perm
    rw [List.filterMap_cons, List.filterMap_cons]
    cases e : vs[i]? with
    | none =>
      have : us[i]? = none := by
        have h := List.getElem?_eq_none_iff.mp e
        exact List.getElem?_eq_none_iff.mpr (by rw [← r.length]; exact h)
      rw [this]
      exact perm_vals r is
    | some d =>
      obtain ⟨v, hv, rv⟩ := r.get e
      rw [hv]
      exact .cons rv (perm_vals r is)
/-- how the keywords ks bind behind n positional values: idx puts them in the parameters' order -/
def KwB (x qual : Str) (st : Stmt) (ps ks : List Str) (n : Nat) (idx : List Nat) : Prop :=
  ∀ (kV doc pm : Value) (an : Option Addr) (cdv ct : Value) (us ws : List Value), us.length = n → ws.length = ks.length → bindArgs (PySem.W.fnOf x qual (defArgs st) (defBody st) (defScope st) .none kV doc pm an cdv ct) ⟨us, ks.zip ws⟩ = pure (ps.zip (us ++ perm idx ws))
theorem kbn_of {K : PySem.W.Frag} {x qual : Str} {st : Stmt} {f : Addr} {fd : FuncData} {ps ks : List Str} {n : Nat} {idx : List Nat} (F : Fun K x qual st f fd) (h : KwB x qual st ps ks n idx) : KBn K fd ps n ks (fun us ws => us ++ perm idx ws) (fun vs zs => vs ++ perm idx zs) := by
  obtain ⟨oc, od, kV, doc, pm, an, cdv, ct, osl, rfl, lk, hcd⟩ := F.ex
  exact ⟨fun s us ws _ l1 l2 => BindsTo.of_eq (h kV doc pm an cdv ct us ws l1 l2), fun r1 r2 => r1.append (perm_vals r2 idx)⟩
section
variable {X : Cx} {E : XK} {k j n : Nat} {x qual : Str} {st : Stmt} {ps ks : List Str} {idx : List Nat} {f : F} {p pos : Pos} {e : Expr} {es : List Expr} {kws : List Keyword} {m : M D} {ms mk : M (List D)} {nm : Option Str} {kpos : Pos}
theorem mk_nil : PK X [] (TL (cg X) E nilM) := ⟨fun pos pins s σ H Q I ⟨w, S, sm, po⟩ => pk_nil.run pos pins s σ H Q I (po w H (.refl ..) sm [] .nil)⟩
theorem mk_cons (h : PE X e (TM (cg X) E m)) (t : PK X kws (TL (cg X) E ms)) : PK X (⟨nm, e, kpos⟩ :: kws) (TL (cg X) E (consM m ms)) := ⟨fun pos pins s σ H Q I ⟨w, S, sm, po⟩ => by
  refine (pk_cons h t).run pos pins s σ H Q I ⟨w, S, sm, Po.two (k := fun d => bd ms fun ds => ret (d :: ds)) po fun d w1 S1 H1 st1 s1 po1 v r => ?_⟩
  refine ⟨w1, S1, s1, Po.two (k := fun ds => ret (d :: ds)) po1 fun ds w2 S2 H2 st2 s2 po2 vs rs => ?_⟩
  exact po2 w2 H2 (.refl ..) s2 _ (.cons (Rep.mono st2.le _ _ r) rs)⟩
def tCallN0 (m : Nat) (sp : Sp) (gV : List V → List V → List V) (E : XK) (tk : TA) : TE := fun σ H Q => tk σ H fun zs H2 => zs.length = m ∧ sp (gV [] zs) H2 Q E
theorem pe_callN0 {CX : CXT} {fa : Addr} {fd : FuncData} {sp : Sp} {tk : TA} {g : List Value → List Value → List Value} {gV : List V → List V → List V} (F : FnOk X.prog X.w X.K X.mg X.base CX k fa fd ps sp) (hr : Room k X.A) (hg : Gl X x) (hm : X.mg x = some (.ref fa)) (hk : PySem.W.keepIn X.K (.ref fa) = true) (hb : KBn X.K fd ps 0 ks g gV) (hx : Passes CX X E) (hkw : PK X kws tk)
    (hall : (backToKw pos (keywordEach kws X.env)).all (·.1.isSome) = true := by rfl) (hks : (backToKw pos (keywordEach kws X.env)).filterMap (·.1) = ks := by rfl) (hdb : (x == ("__debug__" : Str)) = false := by decide)
    (hpl : ((backTo pos (starEach [] X.env)).any (·.1) || (backToKw pos (keywordEach kws X.env)).any (·.1.isNone)) = false := by rfl) : PE X (.Call (.Name x p) [] kws pos) (tCallN0 ks.length sp gV E tk) := by
  refine ⟨fun pins s σ H Q I h => ?_⟩
  refine wpAny_Call_Name_kw (ld_glob I hg hm ?_ hdb)
  refine PySem.W.callWith_KW0 (h₀ := X.base) I.ok.mod.kin hk hall ?_ hpl
  refine thn (hkw.run pos pins s σ H _ I h) fun ws s2 ⟨zs, H2, I2, rz, l2, q2⟩ => ⟨I2.kIn, ?_⟩
  rw [hks]
  exact run_fnN (us := []) (vs := []) F hr hb hx I2 .nil rz rfl l2 q2
/-- f(k = v, ..) -/
theorem perm_len {α : Type} {idx : List Nat} {l : List α} (h : ∀ i ∈ idx, i < l.length) : (perm idx l).length = idx.length := by
  induction idx with
  | nil => rfl
  | cons i is ih =>
    unfold perm
    rw [List.filterMap_cons, List.getElem?_eq_getElem (h i List.mem_cons_self)]
    simp only [List.length_cons]
    have := ih fun i hi => h i (List.mem_cons_of_mem _ hi)
    unfold perm at this
    rw [this]
def callK (f : F) (idx : List Nat) (mk : M (List D)) : M D := bd mk fun ds => inF (f (perm idx ds))
theorem me_callK (c : FnM X.prog X.w X.K X.mg X.base k x st ps f) (hb : KwB x x st ps ks 0 idx) (hr : Room j X.A) (hk : k ≤ j) (hx : Passes (L2.CX X.prog X.w) X E) (hg : Gl X x) (hkw : PK X kws (TL (cg X) E mk)) (hn : ArgN n mk) (hl : ks.length = n := by rfl) (hl2 : (idx.length == ps.length && idx.all fun i => decide (i < n)) = true := by rfl)
    (hall : (backToKw pos (keywordEach kws X.env)).all (·.1.isSome) = true := by rfl) (hks : (backToKw pos (keywordEach kws X.env)).filterMap (·.1) = ks := by rfl) (hdb : (x == ("__debug__" : Str)) = false := by decide)
    (hpl : ((backTo pos (starEach [] X.env)).any (·.1) || (backToKw pos (keywordEach kws X.env)).any (·.1.isNone)) = false := by rfl) : PE X (.Call (.Name x p) [] kws pos) (TM (cg X) E (callK f idx mk)) := by
  obtain ⟨fa, fd, F, hm, kp, _, Fu⟩ := c.ex
  refine PE.weak (pe_callN0 F (hr.mono hk) hg hm kp (kbn_of Fu hb) hx hkw hall hks hdb hpl) fun σ H Q ⟨w, S, s, po⟩ => ?_
  obtain ⟨e1, e2⟩ := Bool.and_eq_true_iff.mp hl2
  refine ⟨w, S, s, po_args hn po fun ds w1 S1 H1 hd st1 s1 po1 vs r => ⟨by rw [← r.length, hd, hl], ?_⟩⟩
  refine inF_of c.flat ?_ s1 (perm_reps r idx) po1
  rw [perm_len fun i hi => by rw [hd]; exact of_decide_eq_true (List.all_eq_true.mp e2 i hi)]
  exact beq_iff_eq.mp e1
/-- C(k = v, ..) -/
def makeK (C : Str) (f : F) (idx : List Nat) (mk : M (List D)) : M D := bd mk fun ds => newM C f (perm idx ds)
end
end Mm
end

section
/-! MmQ: list(range(..)); the facts of the written part, by the head. -/
namespace Mm
open PySem L2
open PyProof.Rows (envOfC Fr)
variable [TabCtx]
section
variable {X : Cx} {E : XK} {pos p p2 pos2 : Pos} {a b : Expr} {ma mb : M D} {c : Gm} {w : Wd}
theorem rng_reps (lo hi : Int) : Reps c w (rngD lo (hi - lo).toNat) (rgV lo hi) := by
  have : rngD lo (hi - lo).toNat = ((List.range (hi - lo).toNat).map fun i => lo + ((i : Nat) : Int)).map D.int := by unfold rngD; rw [List.map_map]; rfl
  rw [this]
  have e : rgV lo hi = ((List.range (hi - lo).toNat).map fun i => lo + ((i : Nat) : Int)).map V.int := by unfold rgV; rw [List.map_map]; rfl
  rw [e]
  exact Reps.ofInts _
def rngC (i j : Int) : M Cell := if 0 ≤ i ∧ i ≤ 16777216 ∧ 0 ≤ j ∧ j ≤ 16777216 then ret (.lst (rngD i (j - i).toNat)) else nope
def rngC1 : D → M Cell
  | .int j => rngC 0 j
  | _ => nope
def rngC2 : D → D → M Cell
  | .int i, .int j => rngC i j
  | _, _ => nope
theorem rngC_of {w : Wd} {S : Sg} {σ : FSt} {H : Hp} {i j : Int} {Q : VK} (s : Sim c w S σ H) (po : Po c E (rngC i j S) w S σ H fun x w' S' H' => ∀ p, Nn H p → CellR c w' H' p x → w'.Hf p = none → ¬ Mu w' S' σ p → Q (.ref p) H') :
    RgOk i j ∧ ∀ q, H q = none → Q (.ref q) (upd H q (.lst (rgV i j))) := by
  unfold rngC at po
  by_cases z : 0 ≤ i ∧ i ≤ 16777216 ∧ 0 ≤ j ∧ j ≤ 16777216
  · rw [if_pos z] at po
    exact ⟨.of_le z.1 z.2.2.2 z.2.1 z.2.2.1, fun q hq => Po.newAt s po hq ⟨_, upd_same, rng_reps i j⟩⟩
  · rw [if_neg z] at po; exact po.elim
theorem mc_listRg1 (hc : X.calm = true) (hg : Gl X "list") (hm : X.mg "list" = none) (hg2 : Gl X "range") (hm2 : X.mg "range" = none) (ha : PE X a (TM (cg X) E ma))
    (na : starEach [a] X.env = (false, eval a X.env) :: starEach [] X.env := by rfl) (nb : starEach [.Call (.Name "range" p2) [a] [] pos2] X.env = (false, eval (.Call (.Name "range" p2) [a] [] pos2) X.env) :: starEach [] X.env := by rfl) :
    PE X (.Call (.Name "list" p) [.Call (.Name "range" p2) [a] [] pos2] [] pos) (TC (cg X) E (bd ma rngC1)) := by
  refine PE.weak (pe_listRg hc hg hm (prg_1 hg2 hm2 ha na) nb) fun σ H Q ⟨w, S, s, po⟩ => ?_
  refine ⟨w, S, s, Po.two (k := rngC1) po fun d w1 S1 H1 st1 s1 po1 v r => ?_⟩
  cases d with
  | int j =>
    refine ⟨j, rep_int r, rngC_of s1 (po1.imp fun x w2 S2 H2 st2 s2 k p hp => k p (st1.th p hp))⟩
  | _ => exact po1.elim
end
/-! ### a def, a class as the top has written them -/
structure DefIn (K : PySem.W.Frag) (mg : Str → Option Value) (x : Str) (st : Stmt) : Prop where
  ex : ∃ fa fd, mg x = some (.ref fa) ∧ Fun K x x st fa fd
theorem defIn_mk {K : PySem.W.Frag} {h : Heap} {mg : Str → Option Value} {x : Str} {st : Stmt} {f : Addr} {oc : Value} {od an : Option Addr} {osl : Array (Option Value)} {kV doc pm cdv ct : Value} (X : K.In h) (G : h.Ns mainGlobals mg)
    (a : PySem.W.nsIn K mainGlobals x = some (some (.ref f))) (l : K.lookup f = some ⟨oc, od, .func (PySem.W.fnOf x x (defArgs st) (defBody st) (defScope st) .none kV doc pm an cdv ct), osl⟩) (c : PySem.W.codeIn K cdv x = true) (k : PySem.W.keepIn K (.ref f) = true) : DefIn K mg x st :=
  ⟨f, _, PySem.W.mg_of X G a, fun_mk l c k⟩
/-- a method (or __init__) of the class at C -/
structure MethIn (K : PySem.W.Frag) (C : Addr) (m qual : Str) (st : Stmt) : Prop where
  ex : ∃ fa fd, PySem.W.findIn K (.ref C) m = some (some (.ref fa)) ∧ PySem.W.isFn K (.ref fa) = true ∧ PySem.W.keepIn K (.ref fa) = true ∧ Fun K m qual st fa fd
theorem me_gloE {X : Cx} {E : XK} {pos : Pos} {x : Str} (hg : Gl X x) (hm : ∃ a, X.mg x = some (.ref a)) (hd : (x == ("__debug__" : Str)) = false := by decide) : PE X (.Name x pos) (TM (cg X) E (ret (.glo x))) := by
  obtain ⟨a, hm⟩ := hm
  exact me_glo hg hm hd
structure MkIn (K : PySem.W.Frag) (mg : Str → Option Value) (C qual : Str) (st : Stmt) : Prop where
  ex : ∃ Ca fa fd, mg C = some (.ref Ca) ∧ Mk K Ca fa ∧ Fun K "__init__" qual st fa fd
structure MtIn (K : PySem.W.Frag) (mg : Str → Option Value) (C m qual : Str) (st : Stmt) : Prop where
  ex : ∃ Ca fa fd, mg C = some (.ref Ca) ∧ Cls K Ca ∧ Meth K Ca m fa ∧ Fun K m qual st fa fd
structure EqIn (K : PySem.W.Frag) (mg : Str → Option Value) (C qual : Str) (st : Stmt) (cls : List Str) : Prop where
  ex : ∃ Ca fa fd, mg C = some (.ref Ca) ∧ PySem.W.findIn K (.ref Ca) "__eq__" = some (some (.ref fa)) ∧ PySem.W.isFn K (.ref fa) = true ∧ PySem.W.findIn K (.ref Ca) "__ne__" = some (some (.builtin "object.__ne__")) ∧ PySem.W.mroIn K Ca (.type "object") = some true ∧
    (∀ t ∈ known, PySem.W.notFirst K Ca (.type t) = true) ∧ (∀ B ∈ cls, ∀ Cb, mg B = some (.ref Cb) → PySem.W.notFirst K Ca (.ref Cb) = true) ∧ Fun K "__eq__" qual st fa fd
section
variable {P : Program} {w : World} {K : PySem.W.Frag} {mg : Str → Option Value} {base : Heap} {C m qual x : Str} {st : Stmt} {ps : List Str} {k n : Nat} {b : M Fl} {cls : List Str}
/-- nothing is promised -/
theorem fnM0 {fa : Addr} {fd : FuncData} (F : Fun K x x st fa fd) (hm : mg x = some (.ref fa)) (hb : Binds K fd ps []) : FnM P w K mg base k x st ps (fun _ => nope) := by
  refine ⟨fun ds g => trivial, fa, fd, ⟨fun vs H Q E h => h.1, fun A outer s H args us vs Q E _ _ _ _ h => ?_⟩, hm, F.kp, hb, F⟩
  obtain ⟨_, _, _, _, _, _, po⟩ := h
  exact po.elim
end
end Mm
end

section
/-! MmR: from the written part's facts; the law's end. -/
namespace Mm
open PySem L2
open PyProof.Rows (envOfC Fr)
section
variable {K : PySem.W.Frag} {h : Heap} {mg : Str → Option Value} {C : Str} {Ca fa : Addr}
end
section
variable {K : PySem.W.Frag} {mg : Str → Option Value} {C x m qual : Str} {Ca f : Addr} {st : Stmt} {oc : Value} {od an : Option Addr} {osl : Array (Option Value)} {kV doc pm cdv ct : Value} {cls : List Str}
theorem glo_mk (h1 : mg x = some (.ref f)) : ∃ a, mg x = some (.ref a) := ⟨f, h1⟩
end
/-- the script, as it is handed in -/
def spScript (K : PySem.W.Frag) : Sp := fun vs H Q _ => ∃ (a : Addr) (ns : List Int), vs = [.ref a] ∧ SqL K H a (ns.map V.int) ∧ ns.length ≤ 63 ∧ (∀ z ∈ ns, Builtin.Int.intBits z ≤ 1048576) ∧ ∀ H', Q (.bl true) H'
def g0 : G := ⟨0, fun _ => none⟩
/-- all but the tables -/
def hz (H : Hp) : Hp := fun a => match H a with
  | some (.tbl _) => none
  | o => o
theorem hz_some {H : Hp} {a : Addr} {o : HO} (e : hz H a = some o) : H a = some o := by
  unfold hz at e
  split at e
  · cases e
  · exact e
theorem hz_nt {H : Hp} {a : Addr} {o : HO} (e : hz H a = some o) : NT o := by
  unfold hz at e
  split at e
  · cases e
  · rename_i h
    intro ps z
    subst z
    exact h ps e
theorem hz_of {H : Hp} {a : Addr} {o : HO} (e : H a = some o) (n : NT o) : hz H a = some o := by
  unfold hz
  split
  · rename_i ps h
    rw [e] at h; cases h
    exact absurd rfl (n ps)
  · exact e
theorem sim0 {c : Gm} {H : Hp} (ht : LamX.Tabs c.T H) : Sim c ⟨hz H, fun _ => 0, 0⟩ ⟨[], g0⟩ [] H where
  n := rfl
  fzz := fun a o e => ⟨hz_some e, hz_nt e⟩
  cell := fun r x e => by cases e
  inj := fun r r' x x' e => by cases e
  len := rfl
  val := fun i d e => by simp at e
  own := fun i x e => by simp at e
  ownInj := fun i j x y p e => by simp at e
  tb := ht
theorem sqL_hz {K : PySem.W.Frag} {H : Hp} {a : Addr} {xs : List V} (h : SqL K H a xs) : SqL K (hz H) a xs := by
  rcases h with (h | ⟨o, h⟩) | h
  · exact .inl (.inl (hz_of h .lst))
  · exact .inl (.inr ⟨o, hz_of h fun _ z => by cases z⟩)
  · exact .inr h
/-- what is left to be shown of a law: its mirror's answer -/
def LawOk (f : F) : Prop := ∀ ns : List Int, ns.length ≤ 63 → (∀ z ∈ ns, Builtin.Int.intBits z ≤ 1048576) → ∃ S', f [.scr ns] ⟨[], g0⟩ = .ok (.bl true) S'
theorem script_of [TabCtx] {K : PySem.W.Frag} {mg : Str → Option Value} {f : F} (h : LawOk f) : ∀ vs H Q E, LamX.Tabs (tabsOf K) H → spScript K vs H Q E → spM (gmOf K mg) 1 f vs H Q E := by
  rintro vs H Q E ht ⟨a, ns, rfl, hs, hl, hb, q⟩
  obtain ⟨S', e⟩ := h ns hl hb
  refine ⟨rfl, ⟨hz H, fun _ => 0, 0⟩, g0, [.scr ns], sim0 ht, .cons (by simp only [Rep]; exact ⟨a, rfl, sqL_hz hs⟩) .nil, ?_⟩
  rw [e]
  intro w' H' _ _ v r
  rw [rep_bl r]
  exact q H'
/-- a law that makes no lambdas -/
instance (priority := low) noTabs : TabCtx := ⟨[]⟩
end Mm
end

section
/-! MmX: d[k], k in d of a dict at a place. -/
namespace Mm
open PySem L2
open PyProof.Rows (envOfC)
variable [TabCtx]
def dgC : Cell → D → Option (Option D)
  | .dK kvs, i => match keyD i with | some k => some (valA kvs k) | none => none
  | .dT kvs, i => match keysD i with | some k => some (valA kvs k) | none => none
  | _, _ => none
def getD1 (P : Pl) (i : D) : M D := fun S => match getP P S with
  | some x => match dgC x i with | some (some d) => .ok d S | _ => .stuck
  | none => .stuck
def inD1 (neg : Bool) (P : Pl) (i : D) : M D := fun S => match getP P S with
  | some x => match dgC x i with | some o => .ok (.bl (if neg then !o.isSome else o.isSome)) S | none => .stuck
  | none => .stuck
def getDM (P : M Pl) (mi : M D) : M D := bd P fun p => bd mi fun i => getD1 p i
def inDM (neg : Bool) (mi : M D) (P : M Pl) : M D := bd mi fun i => bd P fun p => inD1 neg p i
section
variable {c : Gm} {w : Wd} {S : Sg} {σ : FSt} {H : Hp} {P : Pl} {a : Addr} {x : Cell} {i d : D} {iv v : V}
end
section
variable {X : Cx} {E : XK} {pos : Pos} {o i : Expr} {P : M Pl} {mi : M D} {n : Nat}
end
end Mm
end

section
/-! MmAa: sorted of lists of rows, of tuples. -/
namespace L2
open PySem PySem.W PySem.Spec PyProof.Rows
/-- sorted(xs), xs lists or tuples of data -/
def rSortedD (K : PySem.W.Frag) : List V → Hp → VK → Prop := fun vs H Q => ∃ (a : Addr) (zs : List (V × PyData)), vs = [V.ref a] ∧ SqL K H a (zs.map (·.1)) ∧ (∀ z ∈ zs, ∃ t, z.1 = V.ref t) ∧ DpAll K H (zs.map (·.1)) (zs.map (·.2)) ∧ AllAlike (zs.map (·.2)) ∧ Sortable (zs.map (·.2)) ∧ (∀ z ∈ zs, z.2.depth ≤ 50) ∧
  ∀ p, H p = none → Q (.ref p) (upd H p (.lst ((zs.mergeSort (dataLe false (·.2))).map (·.1))))
section
variable {X : Cx}
end
end L2
namespace Mm
open PySem PySem.W L2
open PyProof.Rows (envOfC)
variable [TabCtx]
def encD (d : D) : PyData := (pyD d).getD .none
def isSqD : D → Bool
  | .lst _ => true
  | .tup _ => true
  | _ => false
def sortD (ds : List D) : List D := ds.mergeSort (dataLe false encD)
def SortOk (ds : List D) : Prop := (∀ d ∈ ds, isSqD d = true) ∧ AllAlike (ds.map encD) ∧ Sortable (ds.map encD) ∧ ∀ d ∈ ds, (encD d).depth ≤ 50
open Classical in
noncomputable def sortRF : Vw → M Cell := fun v => if v.1 = true ∧ (pyDs v.2).isSome = true ∧ SortOk v.2 then ret (.lst (sortD v.2)) else nope
section
variable {X : Cx} {E : XK} {e : Expr} {h : M Hd} {p pos : Pos} {n : Nat}
end
end Mm
end

section
/-! MmBb: defs that use repr: nothing is being shown around them; repr of lists and tuples. -/
namespace Mm
open PySem L2
open PySem.Spec PyProof.Rows
variable [TabCtx]

/-- as FnOk, where nothing is being shown -/
structure FnOkG (P : Program) (w : World) (K : PySem.W.Frag) (mg : Str → Option Value) (base : Heap) (CX : CXT) (k : Nat) (f : Addr) (fd : FuncData) (ps : List Str) (sp : Sp) : Prop where
  len : ∀ vs H Q E, sp vs H Q E → vs.length = ps.length
  run : ∀ (A : Around) (outer : List Env) (s : Shared) (H : Hp) (args : Args) (us : List Value) (vs : List V) (Q : VK) (E : XK), Room k A → A.guards = some [] → Env0 P w K mg base A outer s H → BindsTo s fd args (ps.zip us) → Vals vs us → sp vs H Q E →
    codeAny (model P w) A (.call (.ref f) args) (CR CX outer P w H s Q E) s
theorem FnOkG.mono {P : Program} {w : World} {K : PySem.W.Frag} {mg : Str → Option Value} {base : Heap} {CX : CXT} {j k : Nat} {f : Addr} {fd : FuncData} {ps : List Str} {sp : Sp} (F : FnOkG P w K mg base CX j f fd ps sp) (h : j ≤ k) :
    FnOkG P w K mg base CX k f fd ps sp := ⟨F.len, fun A outer s H args us vs Q E hr => F.run A outer s H args us vs Q E (hr.mono h)⟩
section
variable {X : Cx} {CX : CXT} {k : Nat} {f C : Addr} {fd : FuncData} {ps : List Str} {sp : Sp} {dvs : List V} {ds : List Value} {E : XK} {x m : Str} {p pos apos : Pos} {e o : Expr} {es : List Expr} {ta : TE} {t : TA}
end
structure FnMG (P : Program) (w : World) (K : PySem.W.Frag) (mg : Str → Option Value) (base : Heap) (k : Nat) (x : Str) (st : Stmt) (ps : List Str) (f : F) : Prop where
  flat : Flat f
  ex : ∃ (fa : Addr) (fd : FuncData), FnOkG P w K mg base (L2.CX P w) k fa fd ps (spM (gmOf K mg) ps.length f) ∧ mg x = some (.ref fa) ∧ PySem.W.keepIn K (.ref fa) = true ∧ L2.Binds K fd ps [] ∧ Fun K x x st fa fd
section
variable {X : Cx} {E : XK} {k j n : Nat} {x : Str} {st : Stmt} {ps : List Str} {f : F} {p pos : Pos} {e : Expr} {es : List Expr} {ms : M (List D)}
end
/-! ### repr -/
mutual
/-- what is shown of a value, looked at through the boxes -/
def pyS (S : Sg) : Nat → D → Option PyData
  | _, .non => some .none
  | _, .bl b => some (.bool b)
  | _, .int i => some (.int i)
  | n + 1, .lst xs => (pyA S n xs).map .list
  | n + 1, .tup xs => (pyA S n xs).map .tuple
  | n + 1, .box r => match S.g.cs r with
    | some (.lst xs) => (pyA S n xs).map .list
    | _ => none
  | _, _ => none
termination_by n d => (n, 0, sizeOf d)
def pyA (S : Sg) : Nat → List D → Option (List PyData)
  | _, [] => some []
  | n, x :: xs => match pyS S n x, pyA S n xs with
    | some y, some ys => some (y :: ys)
    | _, _ => none
termination_by n l => (n, 1, sizeOf l)
end
def seqP (b : Bool) (ps : List PyData) : PyData := if b = true then .list ps else .tuple ps
def reprF : Vw → M D := fun v S => match pyA S 40 v.2 with
  | some ps => if (seqP v.1 ps).showable = true ∧ (seqP v.1 ps).shown.length ≤ sizeLine then .ok (.str (seqP v.1 ps).shown) S else .stuck
  | none => .stuck
mutual
inductive HReads (K : PySem.W.Frag) (H : Hp) : V → PyData → Prop
  | non : HReads K H .non .none
  | bl (b) : HReads K H (.bl b) (.bool b)
  | int (i) : HReads K H (.int i) (.int i)
  | lst {a vs xs} : SqL K H a vs → HReadsA K H vs xs → HReads K H (.ref a) (.list xs)
  | tup {a vs xs} : SqT K H a vs → HReadsA K H vs xs → HReads K H (.ref a) (.tuple xs)
inductive HReadsA (K : PySem.W.Frag) (H : Hp) : List V → List PyData → Prop
  | nil : HReadsA K H [] []
  | cons {v vs x xs} : HReads K H v x → HReadsA K H vs xs → HReadsA K H (v :: vs) (x :: xs)
end
section
variable {X : Cx} {pins : List (Addr × Obj)} {σ : L2.St} {H : Hp} {s : Shared}
mutual
theorem HReads.reads (I : Inv X pins σ H s) : ∀ {pd : PyData} {v : V} {u : Value}, HReads X.K H v pd → L2.RelV v u → ∃ as, Reads s.heap u pd as
  | .none, v, u, h, r => by
    cases h
    cases r
    exact ⟨_, .none⟩
  | .bool b, v, u, h, r => by
    cases h
    cases r
    exact ⟨_, .bool b⟩
  | .int i, v, u, h, r => by
    cases h
    obtain ⟨t, rfl⟩ := r
    exact ⟨_, .int i t⟩
  | .list xs, v, u, h, r => by
    cases h with
    | @lst a vs _ h1 h2 =>
      cases r
      obtain ⟨its, rv, ⟨o, n, e1, e2, e3, e4⟩, _⟩ := I.list h1
      obtain ⟨as, h3⟩ := HReadsA.reads I h2 rv
      exact ⟨_, .list e1 e2 e4 h3⟩
  | .tuple xs, v, u, h, r => by
    cases h with
    | @tup a vs _ h1 h2 =>
      cases r
      obtain ⟨its, rv, ⟨o, e1, e2, n, e4⟩, _⟩ := I.tuple h1
      obtain ⟨as, h3⟩ := HReadsA.reads I h2 rv
      exact ⟨_, .tuple e1 e2 e4 h3⟩
  | .str x, v, u, h, r => nomatch h
  | .dict x, v, u, h, r => nomatch h
theorem HReadsA.reads (I : Inv X pins σ H s) : ∀ {xs : List PyData} {vs : List V} {us : List Value}, HReadsA X.K H vs xs → Vals vs us → ∃ as, ReadsAll s.heap us xs as
  | [], vs, us, h, r => by
    cases h
    cases r
    exact ⟨_, .nil⟩
  | x :: xs, vs, us, h, r => by
    cases h with
    | cons h1 h2 =>
      cases r with
      | cons r1 r2 =>
        obtain ⟨as, k1⟩ := HReads.reads I h1 r1
        obtain ⟨bs, k2⟩ := HReadsA.reads I h2 r2
        exact ⟨_, .cons k1 k2⟩
end
end
mutual
def noD : PyData → Bool
  | .none | .bool _ | .int _ => true
  | .list xs | .tuple xs => noDA xs
  | _ => false
def noDA : List PyData → Bool
  | [] => true
  | x :: xs => noD x && noDA xs
end
mutual
theorem noD_dict : ∀ p : PyData, noD p = true → p.hasDict = false
  | .none, _ => by simp only [PyData.hasDict]
  | .bool _, _ => by simp only [PyData.hasDict]
  | .int _, _ => by simp only [PyData.hasDict]
  | .list xs, h => by simp only [PyData.hasDict]; exact noDA_dict xs (by simpa only [noD] using h)
  | .tuple xs, h => by simp only [PyData.hasDict]; exact noDA_dict xs (by simpa only [noD] using h)
  | .str _, h => by simp [noD] at h
  | .dict _, h => by simp [noD] at h
theorem noDA_dict : ∀ ps : List PyData, noDA ps = true → PyData.hasDictAll ps = false
  | [], _ => by simp only [PyData.hasDictAll]
  | p :: ps, h => by
    simp only [noDA, Bool.and_eq_true] at h
    simp only [PyData.hasDictAll, noD_dict p h.1, noDA_dict ps h.2, Bool.or_self]
end
section
variable {c : Gm} {w : Wd} {S : Sg} {σ : FSt} {H : Hp}
mutual
theorem pyS_ok (sm : Sim c w S σ H) : ∀ (n : Nat) (d : D) {pd : PyData} {v : V}, pyS S n d = some pd → Rep c w d v → HReads c.K H v pd ∧ pd.depth ≤ n ∧ noD pd = true
  | n, .non, pd, v, h, r => by
    rw [pyS.eq_def] at h
    simp only [Rep] at r
    cases n <;> cases h <;> subst r <;> exact ⟨.non, by simp only [PyData.depth]; omega, by simp only [noD]⟩
  | n, .bl b, pd, v, h, r => by
    rw [pyS.eq_def] at h
    simp only [Rep] at r
    cases n <;> cases h <;> subst r <;> exact ⟨.bl b, by simp only [PyData.depth]; omega, by simp only [noD]⟩
  | n, .int i, pd, v, h, r => by
    rw [pyS.eq_def] at h
    simp only [Rep] at r
    cases n <;> cases h <;> subst r <;> exact ⟨.int i, by simp only [PyData.depth]; omega, by simp only [noD]⟩
  | n + 1, .lst xs, pd, v, h, r => by
    rw [pyS.eq_def] at h
    simp only [Option.map_eq_some_iff] at h
    obtain ⟨ps, h1, rfl⟩ := h
    simp only [Rep] at r
    obtain ⟨a, vs, rfl, h2, h3⟩ := r
    obtain ⟨k1, k2, k3⟩ := pyA_ok sm n xs h1 h3
    exact ⟨.lst (.inl (.inl (sm.fz _ _ h2))) k1, by simp only [PyData.depth]; omega, by simp only [noD]; exact k3⟩
  | n + 1, .tup xs, pd, v, h, r => by
    rw [pyS.eq_def] at h
    simp only [Option.map_eq_some_iff] at h
    obtain ⟨ps, h1, rfl⟩ := h
    simp only [Rep] at r
    obtain ⟨a, vs, rfl, h2, h3⟩ := r
    obtain ⟨k1, k2, k3⟩ := pyA_ok sm n xs h1 h3
    exact ⟨.tup (.inl (.inl (sm.fz _ _ h2))) k1, by simp only [PyData.depth]; omega, by simp only [noD]; exact k3⟩
  | n + 1, .box q, pd, v, h, r => by
    rw [pyS.eq_def] at h
    simp only at h
    split at h
    · rename_i xs e
      simp only [Option.map_eq_some_iff] at h
      obtain ⟨ps, h1, rfl⟩ := h
      simp only [Rep] at r
      obtain ⟨h2, rfl⟩ := r
      obtain ⟨_, ⟨vs, e1, e2⟩, _⟩ := sm.cell q _ e
      obtain ⟨k1, k2, k3⟩ := pyA_ok sm n xs h1 e2
      exact ⟨.lst (.inl (.inl e1)) k1, by simp only [PyData.depth]; omega, by simp only [noD]; exact k3⟩
    · cases h
  | 0, .lst xs, pd, v, h, r => by rw [pyS.eq_def] at h; cases h
  | 0, .tup xs, pd, v, h, r => by rw [pyS.eq_def] at h; cases h
  | 0, .box q, pd, v, h, r => by rw [pyS.eq_def] at h; cases h
  | n, .str _, pd, v, h, r => by rw [pyS.eq_def] at h; cases n <;> cases h
  | n, .ty _, pd, v, h, r => by rw [pyS.eq_def] at h; cases n <;> cases h
  | n, .glo _, pd, v, h, r => by rw [pyS.eq_def] at h; cases n <;> cases h
  | n, .scr _, pd, v, h, r => by rw [pyS.eq_def] at h; cases n <;> cases h
termination_by n d => (n, 0, sizeOf d)
theorem pyA_ok (sm : Sim c w S σ H) : ∀ (n : Nat) (ds : List D) {ps : List PyData} {vs : List V}, pyA S n ds = some ps → Reps c w ds vs → HReadsA c.K H vs ps ∧ PyData.depthAll ps ≤ n ∧ noDA ps = true
  | n, [], ps, vs, h, r => by
    rw [pyA.eq_def] at h
    cases h
    rw [reps_nil.mp r]
    exact ⟨.nil, by simp only [PyData.depthAll]; omega, by simp only [noDA]⟩
  | n, d :: ds, ps, vs, h, r => by
    rw [pyA.eq_def] at h
    simp only at h
    obtain ⟨v, vr, rfl, r1, r2⟩ := reps_cons.mp r
    split at h
    · rename_i y ys e1 e2
      cases h
      obtain ⟨k1, k2, k3⟩ := pyS_ok sm n d e1 r1
      obtain ⟨j1, j2, j3⟩ := pyA_ok sm n ds e2 r2
      exact ⟨.cons k1 j1, by simp only [PyData.depthAll]; omega, by simp only [noDA, k3, j3, Bool.and_self]⟩
    · cases h
termination_by n l => (n, 1, sizeOf l)
end
end
def rRepr (K : PySem.W.Frag) : List V → Hp → VK → Prop := fun vs H Q => ∃ a pd, vs = [.ref a] ∧ HReads K H (.ref a) pd ∧ pd.depth ≤ 64 ∧ pd.hasDict = false ∧ pd.showable = true ∧ pd.shown.length ≤ sizeLine ∧ Q (.str pd.shown) H
section
variable {X : Cx} {E : XK} {e : Expr} {h : M Hd} {p pos : Pos} {k : Nat}
end
end Mm
end

section
/-! MmBc: the end of a law that uses repr; how long what is shown is. -/
namespace Mm
open PySem L2
open PySem.Spec PyProof.Rows PySem.W PySem.Calls
theorem FnOkG.imp {P : Program} {w : World} {K : PySem.W.Frag} {mg : Str → Option Value} {base : Heap} {CX : CXT} {k : Nat} {f : Addr} {fd : FuncData} {ps : List Str} {sp sp' : Sp} (F : FnOkG P w K mg base CX k f fd ps sp)
    (h : ∀ vs H Q E, sp' vs H Q E → sp vs H Q E) : FnOkG P w K mg base CX k f fd ps sp' :=
  ⟨fun vs H Q E q => F.len vs H Q E (h _ _ _ _ q), fun A outer s H args us vs Q E hr gd he hb hv hs => F.run A outer s H args us vs Q E hr gd he hb hv (h _ _ _ _ hs)⟩
/-! ### how long what is shown is -/
def okI (i : Int) : Bool := decide (i.natAbs.log2 < 1920)
mutual
def wtP : PyData → Nat
  | .int _ => 1921
  | .list xs | .tuple xs => wtA xs + 3
  | _ => 5
def wtA : List PyData → Nat
  | [] => 0
  | x :: xs => wtP x + 2 + wtA xs
end
theorem textFrom_pos (ts : List Str) (k : Nat) (acc : Str) (h : 0 < k) : (textFrom k acc ts).length = acc.length + piled ts := textFrom_length_pos ts k acc h
theorem listText_le (ts : List Str) : (listText ts).length ≤ piled ts + 2 := by
  unfold listText
  rw [strLen_append]
  have e1 : ((("[" : String) : Str)).length = 1 := rfl
  have e2 : ((("]" : String) : Str)).length = 1 := rfl
  cases ts with
  | nil => simp only [textFrom]; rw [e1, e2]; omega
  | cons t r =>
    simp only [textFrom]
    rw [textFrom_pos _ _ _ (by omega), strLen_append, strLen_append, e1, e2, piled_cons, if_neg (by decide)]
    have e3 : ((("" : String) : Str)).length = 0 := rfl
    rw [e3]
    omega
theorem tupleText_le (ts : List Str) : (tupleText ts).length ≤ piled ts + 3 := by
  unfold tupleText
  rw [strLen_append, strLen_append]
  have e1 : ((("(" : String) : Str)).length = 1 := rfl
  have e3 : (((if ts.length == 1 then ",)" else ")" : String) : Str)).length ≤ 2 := by split <;> decide
  rw [e1]
  by_cases h : ts = []
  · subst h
    have e4 : (Str.join ", " ([] : List Str)).length = 0 := rfl
    rw [e4]
    omega
  · have := join_length_add ts h
    omega
mutual
theorem shown_le : ∀ p : PyData, noD p = true → p.showable = true → p.shown.length ≤ wtP p
  | .none, _, _ => by simp only [PyData.shown, wtP]; decide
  | .bool b, _, _ => by cases b <;> simp only [PyData.shown, wtP] <;> decide
  | .int i, _, h => by
    simp only [PyData.showable, decide_eq_true_eq] at h
    simp only [PyData.shown, wtP]
    exact PyProof.Rows.int_text_len_1921 h
  | .list xs, h, k => by
    simp only [PyData.shown, wtP]
    have := listText_le (PyData.shownAll xs)
    have := shownA_le xs (by simpa only [noD] using h) (by simpa only [PyData.showable] using k)
    omega
  | .tuple xs, h, k => by
    simp only [PyData.shown, wtP]
    have := tupleText_le (PyData.shownAll xs)
    have := shownA_le xs (by simpa only [noD] using h) (by simpa only [PyData.showable] using k)
    omega
  | .str _, h, _ => by simp [noD] at h
  | .dict _, h, _ => by simp [noD] at h
theorem shownA_le : ∀ ps : List PyData, noDA ps = true → PyData.showableAll ps = true → piled (PyData.shownAll ps) ≤ wtA ps
  | [], _, _ => by simp only [PyData.shownAll, wtA, piled_nil]; omega
  | p :: ps, h, k => by
    simp only [noDA, Bool.and_eq_true] at h
    simp only [PyData.showableAll, Bool.and_eq_true] at k
    simp only [PyData.shownAll, wtA, piled_cons]
    have := shown_le p h.1 k.1
    have := shownA_le ps h.2 k.2
    omega
end
end Mm
end

section
/-! MmCa: raising own exceptions. -/
namespace Mm
open PySem L2
open PyProof.Rows (envOfC)
variable [TabCtx]

/-- what an exception's own __init__ does: its parameters under their names -/
def spI (C : Addr) (fs : List Str) : Sp := fun vs H Q _ => ∃ (a : Addr) (ws : List V), vs = .ref a :: ws ∧ ws.length = fs.length ∧ H a = some (exo a C none) ∧
  ∀ dx, H dx = none → dx ≠ a → Q .non (upd (upd H dx (exd dx (fs.zip ws).reverse)) a (exo a C (some dx)))
section
variable {P : Program} {w : World} {K : PySem.W.Frag} {mg : Str → Option Value} {base : Heap} {qual : Str} {st : Stmt} {fa C : Addr} {fd : FuncData} {k : Nat}
theorem init1 {s f x : Str} {p1 p2 p3 pos : Pos} (F : Fun K "__init__" qual st fa fd) (hb : defBody st = [.Assign [.Attribute (.Name s p1) f p2] (.Name x p3) pos]) (S : FnScope [s, x] [s, x] (defScope st)) (T : OexC K C) (hno : PySem.W.findIn K (.ref C) f = some none)
    (hv1 : Vis (defScope st) s) (hv2 : Vis (defScope st) x) (d1 : (s == ("__debug__" : Str)) = false) (d2 : (s == ("__classdict__" : Str)) = false) (d3 : (x == ("__debug__" : Str)) = false) (d4 : (x == ("__classdict__" : Str)) = false) : FnOk P w K mg base (L2.CX P w) (k + 1) fa fd [s, x] (spI C [f]) := by
  refine F.okX S (fun vs H Q E ⟨a, ws, e, hl, _⟩ => by rw [e]; simp [hl]) (fun cdv A outer sh H vs Q E hr ⟨a, ws, e, hl, ha, q⟩ => ?_)
  obtain ⟨y, rfl⟩ : ∃ y, ws = [y] := by
    match ws, hl with
    | [y], _ => exact ⟨y, rfl⟩
  subst e
  rw [hb]
  refine ⟨_, pss_one (ps_ost (pe_var (i := 0) rfl hv1 d1 d2) (pe_var (i := 1) rfl hv2 d3 d4)), ?_⟩
  exact ⟨y, rfl, .ref a, rfl, a, C, rfl, T, hno, .inl ⟨ha, fun dx h1 h2 => q dx h1 h2⟩⟩
end

/-! ### raise C(x, ..) -/
structure ExM (P : Program) (w : World) (K : PySem.W.Frag) (mg : Str → Option Value) (base : Heap) (k : Nat) (C : Str) (fs : List Str) : Prop where
  ex : ∃ (Ca fI : Addr) (fd : FuncData) (ps : List Str), mg C = some (.ref Ca) ∧ OexC K Ca ∧ PySem.W.findIn K (.ref Ca) "__init__" = some (some (.ref fI)) ∧ PySem.W.typeIn K (.ref fI) = some (.type "function") ∧ FnOk P w K mg base (L2.CX P w) k fI fd ps (spI Ca fs) ∧ Binds K fd ps []
theorem ExM.mono {P : Program} {w : World} {K : PySem.W.Frag} {mg : Str → Option Value} {base : Heap} {j k : Nat} {C : Str} {fs : List Str} (h : ExM P w K mg base j C fs) (l : j ≤ k) : ExM P w K mg base k C fs := by
  obtain ⟨Ca, fI, fd, ps, h1, h2, h3, h4, h5, h6⟩ := h.ex
  exact ⟨Ca, fI, fd, ps, h1, h2, h3, h4, h5.mono l, h6⟩
def raiseM (C : Str) (fs : List Str) (ms : M (List D)) : M Fl := bd ms fun ds S => .exc C (fs.zip ds).reverse S
theorem zip_fst {α β : Type} : ∀ {xs : List α} {ys : List β}, ys.length = xs.length → (xs.zip ys).map (·.1) = xs
  | [], _, _ => by simp
  | x :: xs, [], h => by simp at h
  | x :: xs, y :: ys, h => by
    simp only [List.zip_cons_cons, List.map_cons]
    rw [zip_fst (by simpa using h)]
theorem zip_snd {α β : Type} : ∀ {xs : List α} {ys : List β}, ys.length = xs.length → (xs.zip ys).map (·.2) = ys
  | [], [], _ => rfl
  | [], y :: ys, h => by simp at h
  | x :: xs, [], h => by simp at h
  | x :: xs, y :: ys, h => by
    simp only [List.zip_cons_cons, List.map_cons]
    rw [zip_snd (by simpa using h)]
theorem heap_raise {H : Hp} {a d : Addr} {o u o' v : HO} (ha : H a = none) (hne : d ≠ a) : upd (del (upd (upd (upd H a o) d u) a o') a) d v = upd H d v := by
  funext b
  by_cases z : b = d
  · subst z; rw [upd_same, upd_same]
  · rw [upd_ne z, upd_ne z]
    by_cases y : b = a
    · subst y; rw [del_same, ha]
    · rw [del_ne y, upd_ne y, upd_ne z, upd_ne y]
section
variable {X : Cx} {E : XK} {j k : Nat} {C : Str} {fs : List Str} {ms : M (List D)} {e : Expr} {es : List Expr} {p pos pos' : Pos}
theorem poS_args {c : Gm} {n : Nat} {w : Wd} {S : Sg} {σ : FSt} {H : Hp} {Dn : Ends} {ms : M (List D)} {kf : List D → M Fl} {K' : List D → Wd → Sg → Hp → Prop} (hn : ArgN n ms) (po : PoS c E (bd ms kf S) w S σ H Dn)
    (q : ∀ ds w1 S1 H1, ds.length = n → Step w S σ H w1 S1 σ H1 → Sim c w1 S1 σ H1 → PoS c E (kf ds S1) w1 S1 σ H1 Dn → K' ds w1 S1 H1) : Po c E (ms S) w S σ H K' := by
  have po : PoS c E ((ms S).bind kf) w S σ H Dn := po
  cases em : ms S with
  | exc C fs S' => rw [em] at po; exact po
  | stuck => rw [em] at po; exact po
  | ok ds S1 =>
    rw [em] at po
    exact fun w1 H1 st1 s1 => q ds w1 S1 H1 (hn _ _ _ em) st1 s1 (PoS.rebase st1 po)
theorem ms_raise (c : ExM X.prog X.w X.K X.mg X.base k C fs) (hr : Room j X.A) (hk : k + 1 ≤ j) (hc : X.calm = true) (tk : Takes X (fun cls d _ H => E cls d H)) (hg : Gl X C) (ha : PA X (e :: es) (TL (cg X) E ms)) (hn : ArgN fs.length ms)
    (hl : fs.length ≤ 1000 := by decide) (hdb : (C == ("__debug__" : Str)) = false := by decide) (he : starEach (e :: es) X.env = (false, eval e X.env) :: starEach es X.env := by rfl) (hpl : (backTo pos (starEach es X.env)).any (·.1) = false := by rfl) :
    PS X (.Raise (some (.Call (.Name C p) (e :: es) [] pos)) none pos') (TSm (cg X) E (raiseM C fs ms)) := by
  obtain ⟨Ca, fI, fd, ps, hm, T, iC, tI, F1, hb⟩ := c.ex
  refine PS.weak (ps_raise hc tk (pmk_oex T iC tI F1 (hr.mono hk) hb .nil (passes_call tk fun _ _ _ _ z => z.elim) hg hm ha hdb he hpl)) fun Dn σ H ⟨w, S, s, po⟩ => ?_
  refine ⟨w, S, s, poS_args hn po fun ds w1 S1 H1 hd st1 s1 po1 vs r => ?_⟩
  have hv : vs.length = fs.length := by rw [← r.length]; exact hd
  refine ⟨by omega, fun a ha' => ?_⟩
  rw [List.append_nil]
  refine ⟨a, vs, rfl, hv, upd_same, fun dx h1 h2 => ⟨rfl, dx, (fs.zip vs).reverse, upd_same, by rw [upd_ne h2, upd_same], ?_, ?_⟩⟩
  · rw [upd_ne h2] at h1; exact h1
  · rw [upd_ne h2] at h1
    rw [heap_raise ha' h2]
    refine po1 w1 σ _ Ca dx _ (Step.laid w1 S1 σ _ h1) (s1.laid _ h1) (gl_of hm) upd_same ?_ ?_
    · rw [List.map_reverse, List.map_reverse, zip_fst hv, zip_fst hd]
    · rw [List.map_reverse, List.map_reverse, zip_snd hv, zip_snd hd]
      exact r.reverse
end
/-! ### as the top has written it -/
structure ExIn (K : PySem.W.Frag) (mg : Str → Option Value) (C qual : Str) (st : Stmt) (fs : List Str) : Prop where
  ex : ∃ Ca fI fd, mg C = some (.ref Ca) ∧ OexC K Ca ∧ PySem.W.findIn K (.ref Ca) "__init__" = some (some (.ref fI)) ∧ PySem.W.typeIn K (.ref fI) = some (.type "function") ∧ Fun K "__init__" qual st fI fd ∧ XfC K Ca ∧ ∀ f ∈ fs, PySem.W.findIn K (.ref Ca) f = some none
section
variable {P : Program} {w : World} {K : PySem.W.Frag} {mg : Str → Option Value} {base : Heap} {k : Nat} {C qual : Str} {st : Stmt}
theorem exM_1 {s f x : Str} {p1 p2 p3 pos : Pos} (I : ExIn K mg C qual st [f]) (hbi : ∀ {fa fd}, Fun K "__init__" qual st fa fd → Binds K fd [s, x] []) (hb : defBody st = [.Assign [.Attribute (.Name s p1) f p2] (.Name x p3) pos]) (S : FnScope [s, x] [s, x] (defScope st))
    (hv1 : Vis (defScope st) s) (hv2 : Vis (defScope st) x) (d1 : (s == ("__debug__" : Str)) = false := by decide) (d2 : (s == ("__classdict__" : Str)) = false := by decide) (d3 : (x == ("__debug__" : Str)) = false := by decide) (d4 : (x == ("__classdict__" : Str)) = false := by decide) : ExM P w K mg base (k + 1) C [f] := by
  obtain ⟨Ca, fI, fd, hm, T, hi, ht, F, _, hf⟩ := I.ex
  exact ⟨Ca, fI, fd, [s, x], hm, T, hi, ht, init1 F hb S T (hf f (List.mem_singleton_self f)) hv1 hv2 d1 d2 d3 d4, hbi F⟩
theorem exIn_mk {fs : List Str} {Ca fI : Addr} {oc : Value} {od an : Option Addr} {osl : Array (Option Value)} {kV doc pm cdv ct : Value} {nm q : Str} {N : Addr} {bs bm : List Value} {sn sub ab col dd k0 k1 k2 k3 k5}
    (h1 : mg C = some (.ref Ca)) (h2 : K.lookup Ca = some (excClassObj nm q Ca N bs bm true sn sub ab col dd k0 k1 k2 k3 k5 "ValueError.__new__")) (h3 : PySem.HandSPX.refsVE bm = true)
    (h4 : PySem.W.findIn K (.ref Ca) "__setattr__" = some (some (.builtin "object.__setattr__"))) (h5 : PySem.W.subIn K (.ref Ca) (.type "BaseException") = some true) (h6 : PySem.W.typeIn K (.ref Ca) = some (.type "type")) (h7 : PySem.W.keepIn K (.ref Ca) = true)
    (h8 : PySem.W.findIn K (.ref Ca) "__init__" = some (some (.ref fI))) (h9 : PySem.W.typeIn K (.ref fI) = some (.type "function"))
    (h10 : PySem.W.findIn K (.ref Ca) "__getattribute__" = some (some (.builtin "BaseException.__getattribute__"))) (h11 : PySem.W.findIn K (.ref Ca) "__getattr__" = some none) (h12 : PySem.W.hasDictIn K Ca = true) (h13 : ∀ f ∈ fs, PySem.W.findIn K (.ref Ca) f = some none)
    (l : K.lookup fI = some ⟨oc, od, .func (PySem.W.fnOf "__init__" qual (defArgs st) (defBody st) (defScope st) .none kV doc pm an cdv ct), osl⟩) (c : PySem.W.codeIn K cdv qual = true) (kk : PySem.W.keepIn K (.ref fI) = true) : ExIn K mg C qual st fs :=
  ⟨Ca, fI, _, h1, ⟨⟨nm, q, N, bs, bm, sn, sub, ab, col, dd, k0, k1, k2, k3, k5, h2, h3⟩, h4, h5, h6, h7⟩, h8, h9, fun_mk l c kk, ⟨h10, h11, h5, h12⟩, h13⟩
/-- which clause takes which -/
def XmIn (K : PySem.W.Frag) (mg : Str → Option Value) (A B : Str) (b : Bool) : Prop := ∀ Ca Cb, mg A = some (.ref Ca) → mg B = some (.ref Cb) → PySem.W.exmOne K (.ref Ca) (.ref Cb) = some b
end
end Mm
end

section
/-! MmCb: try with several clauses, some with a name; nothing passes on. -/
namespace Mm
open PySem L2 PySem.Spec
open PyProof.Rows

/-- a clause: its class, whether its exception gets the name, what its suite does -/
structure Cz where
  c : Value
  nm : Bool
  ts : Addr → Value → Option Addr → TS
def offE (i : Nat) (D : Ends) : Ends := { nx := fun σ' H' => D.nx (σ'.set i none) H', rt := D.rt, bk := fun σ' H' => D.bk (σ'.set i none) H', ct := fun σ' H' => D.ct (σ'.set i none) H' }
def inE (i : Nat) (D : Ends) (z : Cz) (a : Addr) (cls : Value) (d : Option Addr) (σ : L2.St) (H : Hp) : Prop :=
  if z.nm = true then z.ts a cls d (offE i D) (σ.set i (some (.ref a))) H else z.ts a cls d D σ H
/-- the clauses one behind the other; the last one must take it -/
def wCl (K : PySem.W.Frag) (i n : Nat) (D : Ends) : List Cz → WX
  | [] => fun _ _ _ _ => False
  | z :: r => fun cls d σ H => ∃ b, PySem.W.exmOne K cls z.c = some b ∧ (b = true → σ.length = n → ∀ a, H a = none → inE i D z a cls d σ H) ∧ (b = false → wCl K i n D r cls d σ H)
inductive HdOk (X : Cx) (n : Str) : List ExceptHandler → List Cz → Prop
  | nil : HdOk X n [] []
  | cons {x : Str} {c : Value} {nm : Bool} {ts : Addr → Value → Option Addr → TS} {b₀ : Stmt} {suite : List Stmt} {np pos' : Pos} {hds : List ExceptHandler} {l : List Cz} (hc : Names X x c)
      (hsu : ∀ (a : Addr) (oe : Obj) (cls : Value) (d : Option Addr) (pn : List (Addr × Obj)), Zc cls d oe → (∃ vs, oe.data = .fields vs) → PSs (X.suite a ((a, oe) :: pn)) (b₀ :: suite) (ts a cls d)) (r : HdOk X n hds l) :
      HdOk X n (.ExceptHandler (some (.Name x np)) (if nm = true then some n else none) (b₀ :: suite) pos' :: hds) (⟨c, nm, ts⟩ :: l)
section
variable {X : Cx} {n : Str} {i : Nat} {body : List Stmt} {h₀ : ExceptHandler} {hds : List ExceptHandler} {l : List Cz} {pos : Pos} {tb : WX → TS}
theorem ps_try_cl (hs : X.stack = X.env :: X.outer) (hf : X.env.frame = some X.env.locals) (hN : X.N.Nodup) (hi : X.N[i]? = some n) (hln : X.env.kindOf n = some .local)
    (hb : ∀ (W : WX) (pn : List (Addr × Obj)) (xe : Value → Shared → Prop), Takes (X.tr pn xe) W → PassesOwn (model X.prog X.w) X.A X.env xe → PSs (X.tr pn xe) body (tb W))
    (hh : HdOk X n (h₀ :: hds) l) : PS X (.Try body (h₀ :: hds) [] [] pos) (fun D σ H => tb (wCl X.K i X.N.length D l) D σ H) := by
  refine ⟨fun pins s σ H D I h => ?_⟩
  have ok := I.ok
  have hfr : X.A.frames = some (X.env :: X.outer) := by rw [ok.frames, hs]
  have hloc : Loc X.env.scope n := .inl hln
  refine wpAny_Try_except ?_
  refine wpAny_mono ((hb (wCl X.K i X.N.length D l) (X.pn ++ pins) (fun e s₁ => wpAny (model X.prog X.w) X.A (noteFrame e X.env) (fun _ s₂ => wpAny (model X.prog X.w) X.A (setFlight e none) (fun _ s₃ =>
    wpAny (model X.prog X.w) X.A (handleBy e X.env (h₀ :: hds)) (SP X pins D) X.xe s₃) X.xe s₂) X.xe s₁) (fun u s' xx => ?ct) PassesOwn.looking).run [] s σ H D (I.toTry _) h) (fun f s1 hsp => ?nd) (fun e s1 he => he)
  case nd =>
    cases f with
    | next => obtain ⟨σ', H', J', q⟩ := hsp; exact wpAny_execs_nil ⟨σ', H', J'.ofTry ok, q⟩
    | brk => obtain ⟨σ', H', J', q⟩ := hsp; exact ⟨σ', H', J'.ofTry ok, q⟩
    | cont => obtain ⟨σ', H', J', q⟩ := hsp; exact ⟨σ', H', J'.ofTry ok, q⟩
    | ret u => obtain ⟨v, σ', H', J', r, q⟩ := hsp; exact ⟨v, σ', H', J'.ofTry ok, r, q⟩
  case ct =>
    obtain ⟨a, B, sI, pins', σ', H', cls, d, rfl, J', nb, up, sky, na, os, ag, w⟩ := xx
    have J : Inv X pins σ' H' sI := J'.ofTry ok
    have sky' : Sky B (X.env :: X.outer) a (Zc cls d) X.env.locals s'.heap := by rw [← hs]; exact sky
    show wpAny (model X.prog X.w) X.A (noteFrame (.ref a) X.env) _ _ _
    refine Sky.land Zc.steady hfr hf sky' fun h3 fl3 up3 => ?_
    have J3 : Inv X pins σ' H' { s' with heap := h3 } := J.landed nb fl3.1 (up.trans up3) os ag
    obtain ⟨oe3, vs3, he3, hz3, hd3⟩ := fl3.there
    have nfr : a ∉ frs (X.env :: X.outer) := fun hm => by
      obtain ⟨_, o', e', hnf⟩ := fl3.2.2.1.mem hm
      rw [he3] at e'
      cases e'
      exact hnf _ hd3
    have nL : a ≠ X.env.locals := fun z => nfr (List.mem_filterMap.mpr ⟨X.env, List.mem_cons_self, by rw [hf, z]⟩)
    have nF : a ∉ X.fs := fun hm => by
      obtain ⟨e, he, q⟩ := List.mem_filterMap.mp hm
      exact nfr (List.mem_filterMap.mpr ⟨e, List.mem_cons_of_mem _ he, q⟩)
    have S3 := J3.suite he3 hd3 na nL nF
    have LT : PySem.W.Looks (model X.prog X.w) h3 (typeOf (.ref a)) cls := fun A Q E s k q => wpAny_typeOf_ref (k _ _ he3) (by rw [hz3.1]; exact q)
    have go : ∀ (hk : List ExceptHandler) (lk : List Cz), HdOk X n hk lk → wCl X.K i X.N.length D lk cls d σ' H' → wpAny (model X.prog X.w) X.A (handleBy (.ref a) X.env hk) (SP X pins D) X.xe { s' with heap := h3 } := by
      intro hk lk H0
      induction H0 with
      | nil => intro w; exact False.elim w
      | @cons x c nm ts b₀ suite np pos' hds2 l2 hc hsu r ih =>
        rintro ⟨b, hb1, hyes, hno⟩
        have LM := PySem.W.exm_one (M := model X.prog X.w) J3.kIn LT hb1
        have test : ∀ {Q : Value → Shared → Prop} {E : Value → Shared → Prop}, Q c { s' with heap := h3 } → wpAny (model X.prog X.w) (X.A.mark (some (.ref a))) (eval (.Name x np) X.env) Q E { s' with heap := h3 } := fun {Q E} q => by
          obtain ⟨hg, hdbg, hm | ⟨hm, hv, hnn⟩⟩ := hc
          · exact ld_glob (X := X.suite a ((a, oe3) :: (X.pn ++ pins))) S3 hg hm q hdbg
          · exact ld_blt (X := X.suite a ((a, oe3) :: (X.pn ++ pins))) S3 hg hm hv q hnn hdbg
        refine wpAny_handleBy_cons (codeAny_handlers_test (test (LM.here ?_))) (by intro q; cases q)
        cases b with
        | false => exact ih (hno rfl)
        | true =>
          have hy := hyes rfl J.len a na
          cases nm with
          | true =>
            refine codeAny_handlers_suite_as (HandSPX.lands_againZ fl3 fun h4 fl4 up4 => ?_)
            have J4 : Inv X pins σ' H' { s' with heap := h4 } := J.landed nb fl4.1 ((up.trans up3).trans up4) os ag
            obtain ⟨oe4, vs4, he4, hz4, hd4⟩ := fl4.there
            refine store_ok (X := X.suite a ((a, oe4) :: (X.pn ++ pins))) (v := .ref a) (J4.suite he4 hd4 na nL nF) hN hi hloc rfl (fun s5 S5 => ?_) (.inr hln)
            refine wpAny_mono ((hsu a oe4 cls d (X.pn ++ pins) hz4 ⟨_, hd4⟩).run [] s5 _ H' _ S5 hy) (fun f s6 hsp => ?_) (fun _ _ z => False.elim z)
            have bye : ∀ {σ6 : L2.St} {H6 : Hp} {Q : Shared → Prop}, Inv (X.suite a ((a, oe4) :: (X.pn ++ pins))) [] σ6 H6 s6 → (∀ s7, Inv X pins (σ6.set i none) H6 s7 → Q s7) →
                wpAny (model X.prog X.w) X.A (do bindName X.env n .none; unbindBehindTheSuite X.env n pos') (fun _ s7 => Q s7) X.xe s6 := fun {σ6 H6 Q} S6 hq => gone_ok (S6.unsuite ok) hN hi hln hq
            cases f with
            | next => obtain ⟨σ6, H6, S6, q6⟩ := hsp; exact bye S6 fun s7 J7 => ⟨_, _, J7, q6⟩
            | brk => obtain ⟨σ6, H6, S6, q6⟩ := hsp; exact bye S6 fun s7 J7 => ⟨_, _, J7, q6⟩
            | cont => obtain ⟨σ6, H6, S6, q6⟩ := hsp; exact bye S6 fun s7 J7 => ⟨_, _, J7, q6⟩
            | ret u => obtain ⟨v6, σ6, H6, S6, r6, q6⟩ := hsp; exact bye S6 fun s7 J7 => ⟨_, _, _, J7, r6, q6⟩
          | false =>
            refine codeAny_handlers_suite (HandSPX.lands_againZ fl3 fun h4 fl4 up4 => ?_)
            have J4 : Inv X pins σ' H' { s' with heap := h4 } := J.landed nb fl4.1 ((up.trans up3).trans up4) os ag
            obtain ⟨oe4, vs4, he4, hz4, hd4⟩ := fl4.there
            refine wpAny_mono ((hsu a oe4 cls d (X.pn ++ pins) hz4 ⟨_, hd4⟩).run [] _ _ H' _ (J4.suite he4 hd4 na nL nF) hy) (fun f s6 hsp => ?_) (fun _ _ z => False.elim z)
            cases f with
            | next => obtain ⟨σ6, H6, S6, q6⟩ := hsp; exact ⟨_, _, S6.unsuite ok, q6⟩
            | brk => obtain ⟨σ6, H6, S6, q6⟩ := hsp; exact ⟨_, _, S6.unsuite ok, q6⟩
            | cont => obtain ⟨σ6, H6, S6, q6⟩ := hsp; exact ⟨_, _, S6.unsuite ok, q6⟩
            | ret u => obtain ⟨v6, σ6, H6, S6, r6, q6⟩ := hsp; exact ⟨_, _, _, S6.unsuite ok, r6, q6⟩
    exact go _ _ hh w
end
end Mm
end

section
/-! MmCc: a def that calls the lambda it got and tells what came of it. -/
namespace Mm
open PySem L2 PySem.Spec LamX
open PyProof.Rows
variable [TabCtx]

/-- a clause by name: the class, the field that is told (or nothing), the word -/
abbrev Kl := Str × Option Str × Str
/-- (word, v) is handed back -/
def bckP (Q : VK) (tag : Str) (v : V) (H : Hp) : Prop := ([V.str tag, v] : List V).length ≤ sizeLine ∧ ∀ p, H p = none → Q (.ref p) (upd H p (.tup [.str tag, v]))
def klP (mg : Str → Option Value) (Q : VK) (z : Kl) : XK := fun cls d H => match z.2.1 with
  | some f => ∃ Ca, mg z.1 = some (.ref Ca) ∧ cls = .ref Ca ∧ ∃ dd ys v, d = some dd ∧ H dd = some (.xd ys) ∧ ys.lookup f = some v ∧ bckP Q z.2.2 v H
  | none => bckP Q z.2.2 .non H
def hdP (K : PySem.W.Frag) (mg : Str → Option Value) (Q : VK) : List Kl → XK
  | [] => fun _ _ _ => False
  | z :: r => fun cls d H => ∃ c b, mg z.1 = some c ∧ PySem.W.exmOne K cls c = some b ∧ (b = true → klP mg Q z cls d H) ∧ (b = false → hdP K mg Q r cls d H)

/-! ### the clauses' suites -/
def tSf (mg : Str → Option Value) (i : Nat) (C f tag : Str) (a : Addr) (cls : Value) (d : Option Addr) : TS := fun D σ H =>
  σ[i]? = some (some (.ref a)) ∧ ∃ Ca, mg C = some (.ref Ca) ∧ cls = .ref Ca ∧ ∃ dd ys v, d = some dd ∧ H dd = some (.xd ys) ∧ ys.lookup f = some v ∧ bckP D.rt tag v H
def tSp (tag : Str) : TS := fun D σ H => bckP D.rt tag .non H
def czOf (mg : Str → Option Value) (i : Nat) (z : Kl) (c : Value) : Cz := match z.2.1 with
  | some f => ⟨c, true, fun a cls d => tSf mg i z.1 f z.2.2 a cls d⟩
  | none => ⟨c, false, fun _ _ _ => tSp z.2.2⟩
/-- the clauses as they are written -/
inductive HdF (K : PySem.W.Frag) (mg : Str → Option Value) (n : Str) : List ExceptHandler → List Kl → List Value → Prop
  | nil : HdF K mg n [] [] []
  | fld {C f tag : Str} {Ca : Addr} {j x1 : Nat} {np pos' p1 p2 p3 p4 p5 : Pos} {hds : List ExceptHandler} {l : List Kl} {cs : List Value} (hm : mg C = some (.ref Ca)) (T : XfC K Ca) (hno : PySem.W.findIn K (.ref Ca) f = some none) (r : HdF K mg n hds l cs) :
      HdF K mg n (.ExceptHandler (some (.Name C np)) (some n) [.Return (some (.Tuple [.Constant (.str tag) j p1, .Attribute (.Name n p2) f p3] x1 p4)) p5] pos' :: hds) ((C, some f, tag) :: l) (.ref Ca :: cs)
  | pln {C tag : Str} {Ca : Addr} {j j2 x1 : Nat} {np pos' p1 p3 p4 p5 : Pos} {hds : List ExceptHandler} {l : List Kl} {cs : List Value} (hm : mg C = some (.ref Ca)) (r : HdF K mg n hds l cs) :
      HdF K mg n (.ExceptHandler (some (.Name C np)) none [.Return (some (.Tuple [.Constant (.str tag) j p1, .Constant .none j2 p3] x1 p4)) p5] pos' :: hds) ((C, none, tag) :: l) (.ref Ca :: cs)
section
variable {X : Cx} {n : Str} {i : Nat}
theorem HdF.ok {hds : List ExceptHandler} {l : List Kl} {cs : List Value} (h : HdF X.K X.mg n hds l cs) (hi : X.N[i]? = some n) (hv : Vis X.env.scope n) (hg : ∀ z ∈ l, Gl X z.1 ∧ (z.1 == ("__debug__" : Str)) = false)
    (hd : (n == ("__debug__" : Str)) = false) (hcd : (n == ("__classdict__" : Str)) = false) : HdOk X n hds ((l.zip cs).map fun p => czOf X.mg i p.1 p.2) := by
  induction h with
  | nil => exact .nil
  | @fld C f tag Ca j x1 np pos' p1 p2 p3 p4 p5 hds l cs hm T hno r ih =>
    have g := hg _ (List.mem_cons_self ..)
    refine HdOk.cons (nm := true) ⟨g.1, g.2, .inl hm⟩ (fun a oe cls d pn hz hf => ?_) (ih fun z hz => hg z (List.mem_cons_of_mem _ hz))
    refine PSs.weak (pss_one (ps_ret (pe_tup (pa_cons pe_str (pa_cons (pe_xf T hno hz hf (pe_var (X := X.suite a ((a, oe) :: pn)) hi hv hd hcd)) pa_nil))))) fun D σ H h => ?_
    obtain ⟨h1, Cb, h2, h3, dd, ys, v, h4, h5, h6, h7⟩ := h
    rw [hm] at h2; cases h2
    exact ⟨.ref a, h1, rfl, h3, dd, ys, v, h4, h5, h6, h7⟩
  | @pln C tag Ca j j2 x1 np pos' p1 p3 p4 p5 hds l cs hm r ih =>
    have g := hg _ (List.mem_cons_self ..)
    refine HdOk.cons (nm := false) ⟨g.1, g.2, .inl hm⟩ (fun a oe cls d pn hz hf => ?_) (ih fun z hz => hg z (List.mem_cons_of_mem _ hz))
    exact PSs.weak (pss_one (ps_ret (pe_tup (pa_cons pe_str (pa_cons pe_non pa_nil))))) fun D σ H h => h
theorem hdP_w {K : PySem.W.Frag} {mg : Str → Option Value} {hds : List ExceptHandler} {l : List Kl} {cs : List Value} {D : Ends} {m : Nat} (h : HdF K mg n hds l cs) (hi : i < m) {cls : Value} {d : Option Addr} {σ : L2.St} {H : Hp} (q : hdP K mg D.rt l cls d H) :
    wCl K i m D ((l.zip cs).map fun p => czOf mg i p.1 p.2) cls d σ H := by
  induction h with
  | nil => exact q.elim
  | @fld C f tag Ca j x1 np pos' p1 p2 p3 p4 p5 hds l cs hm T hno r ih =>
    obtain ⟨c, b, e1, e2, e3, e4⟩ := q
    rw [hm] at e1; cases e1
    refine ⟨b, e2, fun hb hl a ha => ?_, fun hb => ih (e4 hb)⟩
    obtain ⟨Cb, k1, k2, k3⟩ := e3 hb
    show tSf mg i C f tag a cls d (offE i D) (σ.set i (some (.ref a))) H
    exact ⟨List.getElem?_set_self (by rw [hl]; exact hi), Cb, k1, k2, k3⟩
  | @pln C tag Ca j j2 x1 np pos' p1 p3 p4 p5 hds l cs hm r ih =>
    obtain ⟨c, b, e1, e2, e3, e4⟩ := q
    rw [hm] at e1; cases e1
    refine ⟨b, e2, fun hb hl a ha => ?_, fun hb => ih (e4 hb)⟩
    show tSp tag D σ H
    exact e3 hb
end
/-- what the def makes of the lambda's reading -/
def TTm (K : PySem.W.Frag) (mg : Str → Option Value) (told : Str) (val : Bool) (l : List Kl) : (XK → Hp → VK → Prop) → Hp → VK → Prop := fun tl H Q =>
  tl (hdP K mg Q l) H fun v H' => bckP Q told (if val = true then v else .non) H'
section
variable {X : Cx} {Ng : List Str} {x a n q told : Str} {sg : Scope} {g : Addr} {cdg : Value} {i : Nat} {h₀ : ExceptHandler} {hds : List ExceptHandler} {l : List Kl} {cs : List Value} {j j2 x1 : Nat} {p1 p2 p3 p4 p5 p6 p7 p8 : Pos}
theorem met_b (hh : HdF X.K X.mg n (h₀ :: hds) l cs) (hN : Ng.Nodup) (hi : Ng[i]? = some n) (hk : sg.names.lookup n = some .local) (hg : ∀ z ∈ l, sg.names.lookup z.1 = some .globalImplicit ∧ (z.1 == ("__debug__" : Str)) = false)
    (hd : (n == ("__debug__" : Str)) = false) (hcd : (n == ("__classdict__" : Str)) = false) (h0 : ∀ f : Addr, (L2.start Ng [V.ref f])[0]? = some (some (V.ref f))) :
    GivesTo X Ng x sg g cdg [.Try [.Expr (.Call (.Name a p2) [] [] p3) p6, .Return (some (.Tuple [.Constant (.str told) j p1, .Constant .none j2 p7] x1 p4)) p5] (h₀ :: hds) [] [] p8] a q (TTm X.K X.mg told false l) := by
  intro f c' s H Q tl act hc h
  have hl : i < Ng.length := (List.getElem?_eq_some_iff.mp hi).1
  refine ⟨_, pss_one (ps_try_cl (X := (cxOf C8.CX0 X.prog X.w X.K X.mg X.base Ng x sg g cdg X.A X.stack s H C8.E0).nox) (i := i) (n := n)
      (tb := fun W D σ H => ∃ Ech : XK, (∀ cls d σ' H', Ech cls d H' → W cls d σ' H') ∧ σ[0]? = some (some (.ref f)) ∧ H c' = some (CodeO c' q) ∧ tl Ech H (fun v H' => bckP D.rt told .non H'))
      rfl rfl hN hi hk (fun W pn xe tk _ => ?_) (hh.ok (X := (cxOf C8.CX0 X.prog X.w X.K X.mg X.base Ng x sg g cdg X.A X.stack s H C8.E0).nox) hi (.inl hk) (fun z hz => ⟨(hg z hz).1, (hg z hz).2⟩) hd hcd)), ?_⟩
  · refine ⟨fun pins s' σ H' D I h' => ?_⟩
    obtain ⟨Ech, hW, h1, h2, h3⟩ := h'
    have hp := act W pn xe Ech p2 p3 tk hW
    have hq := pss_cons (ps_expr (pos := p6) hp) (pss_one (ps_ret (pos := p5) (pe_tup (x1 := x1) (pos := p4) (pa_cons (pe_str (x := told) (j := j) (pos := p1)) (pa_cons (pe_non (j := j2) (pos := p7)) pa_nil)))))
    exact hq.run pins s' σ H' D I ⟨h1, h2, h3⟩
  · exact ⟨hdP X.K X.mg Q l, fun cls d σ' H' z => hdP_w (D := { nx := fun _ H' => Q .non H', rt := Q }) hh hl z, h0 f, hc, h⟩
end
end Mm
end

section
/-! MmCd: the mirror of a lambda handed to such a def; defs that make lambdas; the law's end with tables. -/
namespace Mm
open PySem L2 PySem.Spec LamX
open PyProof.Rows (envOfC Fr)
section
variable [TabCtx]

def hdl : List Kl → Str → List (Str × D) → Option D
  | [], _, _ => none
  | z :: r, B, fs => if B = z.1 ∨ z.2.1 = none then (match z.2.1 with | some f => (lookA f fs).map fun v => .tup [.str z.2.2, v] | none => some (.tup [.str z.2.2, .non])) else hdl r B fs
def noOwns (sl : List Slot) : Bool := sl.all fun s => match s with | .own _ => false | _ => true
/-- what is told of a run of m -/
def metM (Bs : List Str) (l : List Kl) (told : Str) (val : Bool) (m : M D) : M D := fun S => match m S with
  | .ok d S' => .ok (.tup [.str told, if val = true then d else .non]) S'
  | .exc B fs S' => if B ∈ Bs ∧ noOwns S.sl = true then (match hdl l B fs with | some d => .ok d ⟨S.sl, S'.g⟩ | none => .stuck) else .stuck
  | .stuck => .stuck

theorem Sim.ext {c : Gm} {w : Wd} {S : Sg} {σ : FSt} {H H1 : Hp} (s : Sim c w S σ H) (e : ExtN H H1) (t : Tabs c.T H1) : Sim c w S σ H1 where
  n := s.n
  fzz := fun a o h => ⟨e _ _ (s.fzz a o h).1 (s.fzz a o h).2, (s.fzz a o h).2⟩
  cell := fun r x h => by
    obtain ⟨k1, k2, k3⟩ := s.cell r x h
    obtain ⟨o, ho⟩ := k2.there
    exact ⟨k1, k2.mono (.refl w) ((e _ _ ho (k2.nt o ho).1).trans ho.symm), k3⟩
  inj := s.inj
  len := s.len
  val := s.val
  own := fun i x h => by
    obtain ⟨p, k1, k2, k3, k4⟩ := s.own i x h
    obtain ⟨o, ho⟩ := k2.there
    exact ⟨p, k1, k2.mono (.refl w) ((e _ _ ho (k2.nt o ho).1).trans ho.symm), k3, k4⟩
  ownInj := s.ownInj
  tb := t
theorem Step.ext {w : Wd} {S : Sg} {σ : FSt} {H H1 : Hp} (e : ExtN H H1) : Step w S σ H w S σ H1 :=
  ⟨.refl w, fun a o h1 n h2 h3 => ⟨e a o h1 n, h2, h3⟩, fun a h o ho => by
    by_cases z : NT o
    · exact h o (e a o ho z)
    · unfold NT at z
      simpa using z⟩
theorem noOwns_at {sl : List Slot} (h : noOwns sl = true) {i : Nat} {x : Cell} : sl[i]? ≠ some (.own x) := fun e => by
  unfold noOwns at h
  have := List.all_eq_true.mp h _ (List.mem_of_getElem? e)
  cases this
/-- behind an exception: the frame as it was -/
theorem Sim.again {c : Gm} {w w' : Wd} {S S' : Sg} {σ σ' : FSt} {H H' : Hp} (s : Sim c w S σ H) (no : noOwns S.sl = true) (le : Le w w') (s' : Sim c w' S' σ' H') : Sim c w' ⟨S.sl, S'.g⟩ σ H' where
  n := s'.n
  fzz := s'.fzz
  cell := s'.cell
  inj := s'.inj
  len := s.len
  val := fun i d e => by
    obtain ⟨v, h1, h2⟩ := s.val i d e
    exact ⟨v, h1, Rep.mono le _ _ h2⟩
  own := fun i x e => absurd e (noOwns_at no)
  ownInj := fun i j x y p e => absurd e (noOwns_at no)
  tb := s'.tb
theorem Step.again {w w' : Wd} {S S' : Sg} {σ σ' : FSt} {H H' : Hp} (no : noOwns S.sl = true) (st : Step w S σ H w' S' σ' H') : Step w S σ H w' ⟨S.sl, S'.g⟩ σ H' :=
  ⟨st.le, fun a o h1 n h2 h3 => by
    obtain ⟨q1, q2, q3⟩ := st.keep a o h1 n h2 h3
    refine ⟨q1, q2, fun m => ?_⟩
    rcases m with m | ⟨i, x, e, k⟩
    · exact q3 (.inl m)
    · exact absurd e (noOwns_at no), st.th⟩
theorem two_small (x : Str) (v : V) : ([V.str x, v] : List V).length ≤ sizeLine := by rw [sizeLine_eq]; simp

def XmAll (K : PySem.W.Frag) (mg : Str → Option Value) (l : List Kl) (Bs : List Str) : Prop :=
  ∀ B ∈ Bs, ∀ z ∈ l, ∀ Cb, mg B = some (.ref Cb) → ∃ c, mg z.1 = some c ∧ PySem.W.exmOne K (.ref Cb) c = some (decide (B = z.1 ∨ z.2.1 = none))
section
variable {K : PySem.W.Frag} {mg : Str → Option Value} {E : XK} {Bs : List Str} {l : List Kl} {told : Str} {val : Bool} {m : M D}
theorem gl_mg {C : Str} {a : Addr} (h : (gmOf K mg).gl C = some a) : mg C = some (.ref a) := by
  have h : (match mg C with | some (.ref a) => some a | _ => none) = some a := h
  split at h
  · rename_i b hb; cases h; exact hb
  · cases h
theorem bck_of {w : Wd} {S : Sg} {σ : FSt} {H : Hp} {Q : VK} {tag : Str} {d : D} {v : V} (s : Sim (gmOf K mg) w S σ H) (po : Po (gmOf K mg) E (.ok (.tup [.str tag, d]) S) w S σ H (KD (gmOf K mg) Q)) (r : Rep (gmOf K mg) w d v) : bckP Q tag v H :=
  ⟨two_small _ _, fun p hp => Po.tupAt s po (.cons (by simp only [Rep]) (.cons r .nil)) hp⟩
theorem hd_of {w : Wd} {S : Sg} {σ : FSt} {H : Hp} {Q : VK} {B : Str} {Ca dx : Addr} {fs : List (Str × D)} {ys : List (Str × V)} {d : D} (s : Sim (gmOf K mg) w S σ H) (hB : mg B = some (.ref Ca)) (hx : H dx = some (.xd ys)) (hy : ys.map (·.1) = fs.map (·.1)) (hr : Reps (gmOf K mg) w (fs.map (·.2)) (ys.map (·.2)))
    (po : Po (gmOf K mg) E (.ok d S) w S σ H (KD (gmOf K mg) Q)) : ∀ (l : List Kl), (∀ z ∈ l, ∀ Cb, mg B = some (.ref Cb) → ∃ c, mg z.1 = some c ∧ PySem.W.exmOne K (.ref Cb) c = some (decide (B = z.1 ∨ z.2.1 = none))) → hdl l B fs = some d → hdP K mg Q l (.ref Ca) (some dx) H
  | [], _, e => by cases e
  | z :: r, hm, e => by
    obtain ⟨c, h1, h2⟩ := hm z (List.mem_cons_self ..) Ca hB
    refine ⟨c, _, h1, h2, fun hb => ?_, fun hb => ?_⟩
    · have hb : B = z.1 ∨ z.2.1 = none := of_decide_eq_true hb
      unfold hdl at e
      rw [if_pos hb] at e
      unfold klP
      cases ef : z.2.1 with
      | none =>
        rw [ef] at e
        cases e
        exact bck_of s po (by simp only [Rep])
      | some f =>
        rw [ef] at e
        have hb : B = z.1 := by
          rcases hb with hb | hb
          · exact hb
          · rw [ef] at hb; cases hb
        have e : (lookA f fs).map (fun v => D.tup [.str z.2.2, v]) = some d := e
        cases el : lookA f fs with
        | none => rw [el] at e; cases e
        | some y =>
          rw [el] at e
          cases e
          obtain ⟨u, u1, u2⟩ := tab_look ⟨hy, hr⟩ el
          exact ⟨Ca, by rw [← hb]; exact hB, rfl, dx, ys, u, rfl, hx, u1, bck_of s po u2⟩
    · have hb : ¬ (B = z.1 ∨ z.2.1 = none) := of_decide_eq_false hb
      unfold hdl at e
      rw [if_neg hb] at e
      exact hd_of s hB hx hy hr po r (fun y hy => hm y (List.mem_cons_of_mem _ hy)) e
theorem tlam_of (xm : XmAll K mg l Bs) : ∀ σ H Q, TM (gmOf K mg) E (metM Bs l told val m) σ H Q → tLam (tabsOf K) (TTm K mg told val l) (fun E' => TM (gmOf K mg) E' m) σ H Q := by
  rintro σ H Q ⟨w, S, s, po⟩
  refine ⟨s.tb, fun H1 e t => ⟨w, S, s.ext e t, ?_⟩⟩
  have st0 : Step w S σ H w S σ H1 := Step.ext e
  have s0 := s.ext e t
  unfold metM at po
  cases em : m S with
  | stuck => rw [em] at po; exact po
  | ok d S' =>
    rw [em] at po
    intro w1 H2 st1 s1 v r
    have po1 := Po.rebase (st0.trans st1) po
    cases val with
    | true => exact bck_of s1 po1 r
    | false => exact bck_of (d := .non) (v := .non) s1 po1 (by simp only [Rep])
  | exc B fs S' =>
    rw [em] at po
    simp only at po
    by_cases z : B ∈ Bs ∧ noOwns S.sl = true
    · rw [if_pos z] at po
      cases eh : hdl l B fs with
      | none => rw [eh] at po; exact po.elim
      | some d =>
        rw [eh] at po
        intro w1 σ1 H2 Ca dx ys st1 s1 hC hx hy hr
        have s2 := s0.again z.2 st1.le s1
        have po1 := Po.rebase (st0.trans (Step.again z.2 st1)) po
        exact hd_of s2 (gl_mg hC) hx hy hr po1 l (fun y hy Cb hb => xm B z.1 y hy Cb hb) eh
    · rw [if_neg z] at po; exact po.elim
end
/-! ### the def that is handed the lambda -/
structure MetM (K : PySem.W.Frag) (mg : Str → Option Value) (x : Str) (told : Str) (val : Bool) (l : List Kl) (Bs : List Str) : Prop where
  ex : ∃ (g : Addr) (oc : Value) (od an : Option Addr) (pg : Arguments) (bg : List Stmt) (sg : Scope) (dV kV doc pm cdv ct : Value) (osl : Array (Option Value)) (Ng : List Str) (a : Str), mg x = some (.ref g) ∧ PySem.W.keepIn K (.ref g) = true ∧
    K.lookup g = some ⟨oc, od, .func (PySem.W.fnOf x x pg bg sg dV kV doc pm an cdv ct), osl⟩ ∧ PySem.W.codeIn K cdv x = true ∧ L2.Binds K (PySem.W.fnOf x x pg bg sg dV kV doc pm an cdv ct) [a] [] ∧ FnScope Ng [a] sg ∧ Ng[0]? = some a ∧ Vis sg a ∧
    (a == ("__debug__" : Str)) = false ∧ (a == ("__classdict__" : Str)) = false ∧ ∀ (X : Cx) (q : Str), X.K = K → X.mg = mg → GivesTo X Ng x sg g cdv bg a q (TTm K mg told val l)
  xm : XmAll K mg l Bs
theorem metM_of {K : PySem.W.Frag} {mg : Str → Option Value} {x told a : Str} {st : Stmt} {val : Bool} {l : List Kl} {Bs Ng : List Str} (I : DefIn K mg x st) (hb : ∀ {fa fd}, Fun K x x st fa fd → L2.Binds K fd [a] []) (S : FnScope Ng [a] (defScope st)) (hN : Ng[0]? = some a) (hv : Vis (defScope st) a)
    (G : ∀ (X : Cx) (g : Addr) (cdv : Value) (q : Str), X.K = K → X.mg = mg → GivesTo X Ng x (defScope st) g cdv (defBody st) a q (TTm K mg told val l)) (xm : XmAll K mg l Bs) (d1 : (a == ("__debug__" : Str)) = false := by decide) (d2 : (a == ("__classdict__" : Str)) = false := by decide) : MetM K mg x told val l Bs := by
  obtain ⟨fa, fd, hm, F⟩ := I.ex
  have b := hb F
  have kp := F.kp
  obtain ⟨oc, od, kV, doc, pm, an, cdv, ct, osl, rfl, lk, hcd⟩ := F.ex
  exact ⟨⟨fa, oc, od, an, _, _, _, _, kV, doc, pm, cdv, ct, osl, Ng, a, hm, kp, lk, hcd, b, S, hN, hv, d1, d2, fun X q h1 h2 => G X fa cdv q h1 h2⟩, xm⟩
/-! ### defs that make lambdas -/
structure LamIn (K : PySem.W.Frag) (mg : Str → Option Value) (x : Str) (st : Stmt) : Prop where
  ex : ∃ (fa : Addr) (oc : Value) (od an : Option Addr) (kV doc pm ct : Value) (osl : Array (Option Value)) (c P : Addr), mg x = some (.ref fa) ∧ K.lookup fa = some ⟨oc, od, .func (PySem.W.fnOf x x (defArgs st) (defBody st) (defScope st) .none kV doc pm an (.ref c) ct), osl⟩ ∧
    PySem.W.codeIn K (.ref c) x = true ∧ PySem.W.keepIn K (.ref fa) = true ∧ PySem.W.tabIn K x = some (c, P) ∧ K.lookup P = none
theorem lamIn_mk {K : PySem.W.Frag} {h : Heap} {mg : Str → Option Value} {x : Str} {st : Stmt} {f c P : Addr} {oc : Value} {od an : Option Addr} {osl : Array (Option Value)} {kV doc pm ct : Value} (X : K.In h) (G : h.Ns mainGlobals mg)
    (a : PySem.W.nsIn K mainGlobals x = some (some (.ref f))) (l : K.lookup f = some ⟨oc, od, .func (PySem.W.fnOf x x (defArgs st) (defBody st) (defScope st) .none kV doc pm an (.ref c) ct), osl⟩) (cc : PySem.W.codeIn K (.ref c) x = true) (k : PySem.W.keepIn K (.ref f) = true)
    (t : PySem.W.tabIn K x = some (c, P)) (n : K.lookup P = none) : LamIn K mg x st := ⟨f, oc, od, an, kV, doc, pm, ct, osl, c, P, PySem.W.mg_of X G a, l, cc, k, t, n⟩
def LamCd (K : PySem.W.Frag) (mg : Str → Option Value) (base : Heap) (x : Str) (cdv : Value) : Prop := ∃ c P, cdv = .ref c ∧ PySem.W.tabIn K x = some (c, P) ∧ TabB base mg c P
def TabsOk (K : PySem.W.Frag) : Prop := ∀ x ∈ TabCtx.xs, ∀ y ∈ TabCtx.xs, ∀ p q, PySem.W.tabIn K x = some p → PySem.W.tabIn K y = some q → p.2 = q.2 → x = y
def TabsB (K : PySem.W.Frag) (mg : Str → Option Value) (base : Heap) : Prop := ∀ x ∈ TabCtx.xs, ∀ c P, PySem.W.tabIn K x = some (c, P) → TabB base mg c P
theorem fnML {P : Program} {w : World} {K : PySem.W.Frag} {mg : Str → Option Value} {base : Heap} {x : Str} {st : Stmt} {N ps : List Str} {k : Nat} {b : M Fl} (I : LamIn K mg x st) (hx : x ∈ TabCtx.xs) (TB : TabsB K mg base) (hb : ∀ {fa fd}, Fun K x x st fa fd → L2.Binds K fd ps []) (S : FnScope N ps (defScope st))
    (hbody : ∀ (fa : Addr) (cdv : Value), LamCd K mg base x cdv → ∀ (A : Around) (outer : List Env) (s : Shared) (H : Hp) (E : XK), Room k (A.deeper (envOfC x (defScope st) s.heap.objs.size fa cdv)) →
      PSs (cxOf (L2.CX P w) P w K mg base N x (defScope st) fa cdv A outer s H E) (defBody st) (TSm (gmOf K mg) E b)) : FnM P w K mg base (k + 1) x st ps (runF N.length b) := by
  obtain ⟨fa, oc, od, an, kV, doc, pm, ct, osl, c, T, hm, lk, hcd, kp, ht, hn⟩ := I.ex
  have F : Fun K x x st fa _ := fun_mk lk hcd kp
  refine ⟨flat_runF, fa, _, fn_of lk hcd S (fun vs H Q E h => h.1) (fun A outer s H vs Q E hr h => ⟨_, hbody fa (.ref c) ⟨c, T, rfl, ht, TB x hx c T ht⟩ A outer s H E hr, ?_⟩), hm, kp, hb F, F⟩
  obtain ⟨hl, wd, g, ds, sm, r, po⟩ := h
  refine ⟨wd, ⟨slots N.length ds, g⟩, sm.enter r, ?_⟩
  have st0 : Step wd ⟨[], g⟩ [] H wd ⟨slots N.length ds, g⟩ (L2.start N vs) H := Step.enter
  unfold runF at po
  have po : Po (gmOf K mg) E (finR (b ⟨slots N.length ds, g⟩)) wd ⟨[], g⟩ [] H (KD (gmOf K mg) Q) := po
  cases e : b ⟨slots N.length ds, g⟩ with
  | ok f S1 =>
    rw [e] at po
    intro w1 σ1 H1 st1 s1
    have st2 := (st0.trans st1).trans Step.drop
    cases f with
    | nx => exact po w1 H1 st2 s1.drop .non (by simp only [Rep])
    | rt d => intro v rv; exact po w1 H1 st2 s1.drop v rv
    | bk => exact po.elim
    | ct => exact po.elim
  | exc C fs S1 =>
    rw [e] at po
    intro w1 σ1 H1 Ca dx ys st1 s1 hC hd hy hr
    exact po w1 [] H1 Ca dx ys ((st0.trans st1).trans Step.drop) s1.drop hC hd hy hr
  | stuck => rw [e] at po; exact po
section
variable {X : Cx} {E : XK} {j k : Nat} {x x0 told : Str} {val : Bool} {l : List Kl} {Bs : List Str} {m : M D} {params : Arguments} {body : Expr} {scope : Scope} {p lpos pos : Pos}
theorem me_met (M : MetM X.K X.mg x told val l Bs) (hg : Gl X x) (hr : Room j X.A) (hk : k + 2 ≤ j) (hc : LamCd X.K X.mg X.base x0 X.env.code) (hx0 : x0 ∈ TabCtx.xs) (hu : TabsOk X.K) (L : lamSB X.env.scope scope = true)
    (hbody : ∀ (A : Around) (outer : List Env) (s : Shared) (H : Hp) (E : XK) (f c' : Addr), Room k (A.deeper (lamEnv X scope s.heap.objs.size f c')) → PE (lamCx X A outer s H E scope f c') body (TM (cg X) E m))
    (hq : X.env.qual ++ "<lambda>" = lamQ x0 := by rfl) (hdef : defaultsOf params X.env = ([], []) := by rfl)
    (hbind : ∀ (q : Str) (cl : List (Str × Addr)) (pm cv ctv : Value), bindArgs (PySem.W.kla_fn "<lambda>" q params body scope cl pm cv ctv) ⟨[], []⟩ = pure [] := by intros; rfl)
    (hdb : (x == ("__debug__" : Str)) = false := by decide) :
    PE X (.Call (.Name x p) [.Lambda params body scope lpos] [] pos) (TM (cg X) E (metM Bs l told val m)) := by
  obtain ⟨g, oc, od, an, pg, bg, sg, dV, kV, doc, pm, cdv, ct, osl, Ng, a, hm, kp, lk, hcg, b, Sg, hN, hv, d1, d2, G⟩ := M.ex
  obtain ⟨c, P, e1, e2, TB⟩ := hc
  have hmT : (P, X.env.qual ++ "<lambda>") ∈ tabsOf X.K := by
    unfold tabsOf
    refine List.mem_filterMap.mpr ⟨x0, hx0, ?_⟩
    rw [e2, hq]; rfl
  refine PE.weak (pe_lamcall (T := tabsOf X.K) (TT := TTm X.K X.mg told val l) (t := fun E' => TM (cg X) E' m) hg hm kp lk hcg b Sg hN hv (G X _ rfl rfl) TB e1 hmT (fun p hp hP => ?_) (hr.mono hk) (lamS_by L) hdef hbind hbody hdb d1 d2) (tlam_of M.xm)
  unfold tabsOf at hp
  obtain ⟨y, hy, ey⟩ := List.mem_filterMap.mp hp
  cases et : PySem.W.tabIn X.K y with
  | none => rw [et] at ey; cases ey
  | some q =>
    rw [et] at ey
    cases ey
    rw [hq, hu y hy x0 hx0 q (c, P) et e2 hP]
end
end
end Mm
end

section
/-! MmCk: an int and a dict are never equal; a dict in a list of ints. -/
namespace Mm
open PySem L2 PySem.Spec PySem.SeqAt MeetsSeq AutoSeq1
section
variable {A : Around} {s : Shared}
/-- all are ints -/
def ints? : List PyData → Bool
  | [] => true
  | .int _ :: r => ints? r
  | _ :: _ => false
variable {prog : Program} {w : World} {E : Value → Shared → Prop}
end
end Mm
end

section
/-! MmCf: in, through a box; list(d.items()) of an empty dict; sorted of a dict's int keys. -/
namespace Mm
open PySem L2 PySem.Spec
open PyProof.Rows (envOfC Fr)
variable [TabCtx]

/-! ### in -/
section
variable {X : Cx}
def rInO (K : PySem.W.Frag) (neg : Bool) : R2 := fun x y H Q => ∃ d ds, (Dp K H x d ∨ d = .dict [] ∧ ∃ a, x = .ref a ∧ H a = some (.dK [])) ∧ Dp K H y (.list ds) ∧ (SeqAt.shaped d = true ∨ d = .dict [] ∧ ints? ds = true ∧ ∃ a, x = .ref a ∧ H a = some (.dK [])) ∧ SeqAt.shaped (.list ds) = true ∧ Q (.bl (if neg = true then !ds.any (fun z => PyData.eqv z d) else ds.any fun z => PyData.eqv z d)) H
end
/-- data, also of a list box or an empty dict box -/
def pyO (S : Sg) (d : D) : Option PyData := match d with
  | .box r => match S.g.cs r with
    | some (.lst xs) => (pyDs xs).map .list
    | some (.dK []) => some (.dict [])
    | _ => none
  | d => pyD d
def isD0 : PyData → Bool
  | .dict [] => true
  | _ => false
def inOP (neg : Bool) (d : D) (v : Vw) : M D := fun S => if v.1 = true then (match pyO S d, pyDs v.2 with
  | some p, some ps => if ((SeqAt.shaped p || isD0 p && ints? ps) && SeqAt.shaped (.list ps)) = true then .ok (.bl (if neg = true then !ps.any (fun z => PyData.eqv z p) else ps.any fun z => PyData.eqv z p)) S else .stuck
  | _, _ => .stuck) else .stuck
def inOM (neg : Bool) (m : M D) (h : M Hd) : M D := bd m fun d => bd h fun y => bd (see y) fun v => inOP neg d v
section
variable {c : Gm} {E : XK} {m : M D} {h : M Hd}
end
section
variable {X : Cx} {E : XK} {pos : Pos} {a b : Expr} {m : M D} {h : M Hd} {n : Nat}
end
/-! ### list(d.items()), d empty -/
def itemsE (P : Pl) : M Cell := fun S => match getP P S with | some (.dK []) => .ok (.lst []) S | _ => .stuck
section
variable {X : Cx} {E : XK} {p apos cpos pos : Pos} {e : Expr} {mP : M Pl}
theorem mc_items (hc : X.calm = true) (hg : Gl X "list") (hm : X.mg "list" = none) (he : PE X e (TP (cg X) E mP)) (hbase : attributeBase e "items" X.env (eval e X.env) = eval e X.env := by rfl) (hline : (apos.endLine == cpos.line) = true := by rfl)
    (hs : starEach [.Call (.Attribute e "items" apos) [] [] cpos] X.env = (false, eval (.Call (.Attribute e "items" apos) [] [] cpos) X.env) :: starEach [] X.env := by rfl) :
    PE X (.Call (.Name "list" p) [.Call (.Attribute e "items" apos) [] [] cpos] [] pos) (TC (cg X) E (bd mP itemsE)) := by
  refine PE.weak (LiI.pe_listItems hc he hg hm (by rfl) hbase hline hs) fun σ H Q ⟨w, S, s, po⟩ => ?_
  refine ⟨w, S, s, Po.two po fun P w1 S1 H1 st1 s1 po1 a pa => ?_⟩
  unfold itemsE at po1
  cases eg : getP P S1 with
  | none => simp only [eg] at po1; exact po1.elim
  | some x =>
    cases x with
    | dK kvs =>
      cases kvs with
      | nil =>
        simp only [eg] at po1
        obtain ⟨⟨ys, k2, k3, k4⟩, _⟩ := s1.getP pa eg
        have : ys = [] := by simpa using k3
        subst this
        refine ⟨a, [], rfl, k2, fun H' q ts e1 e2 e3 e4 e5 e6 => ?_⟩
        cases e6
        have s2 := s1.ext (.of e1) (s1.tb.ext e1)
        exact po1 w1 H' (Step.ext (.of e1)) s2 q (st1.th q (nn_none e2)) ⟨[], e5, .nil⟩ (s1.nofz e2) fun m => by
          obtain ⟨_, o, z⟩ := s1.mu m
          rw [e2] at z; cases z
      | cons _ _ => simp only [eg] at po1; exact po1.elim
    | lst _ => simp only [eg] at po1; exact po1.elim
    | dT _ => simp only [eg] at po1; exact po1.elim
    | ins _ _ => simp only [eg] at po1; exact po1.elim
end
/-! ### sorted(d), d with int keys -/
def keysI : List Key → Option (List Int)
  | [] => some []
  | .inl i :: r => (keysI r).map (i :: ·)
  | .inr _ :: _ => none
def sortKC : Cell → M Cell
  | .dK kvs => match keysI (kvs.map (·.1)) with | some ns => if ns.length < 64 then ret (.lst ((sortI ns).map D.int)) else nope | none => nope
  | _ => nope
def sortKP (P : Pl) : M Cell := fun S => match getP P S with | some x => sortKC x S | none => .stuck
section
variable {X : Cx} {E : XK} {p pos : Pos} {e : Expr} {mP : M Pl} {mc : M Cell}
end
/-! ### within a lambda -/
theorem passLam {X : Cx} {A : Around} {outer : List Env} {s : Shared} {H : Hp} {E : XK} {scope : Scope} {f c' : Addr} {P : Program} {w : World} (h1 : X.prog = P := by rfl) (h2 : X.w = w := by rfl) : Passes (L2.CX P w) (LamX.lamCx X A outer s H E scope f c') E := by
  subst h1
  subst h2
  exact passes_call (takes_of rfl rfl rfl rfl) fun _ _ _ _ h => h
theorem takesD {P : Program} {w : World} {K : PySem.W.Frag} {mg : Str → Option Value} {base : Heap} {N : List Str} {qual : Str} {sc : Scope} {f : Addr} {cd : Value} {A : Around} {outer : List Env} {s : Shared} {H : Hp} {E : XK} :
    Takes (cxOf (L2.CX P w) P w K mg base N qual sc f cd A outer s H E) (fun cls d _ H => E cls d H) := takes_of rfl rfl rfl rfl
/-! ### facts of the head -/
theorem xm_one {K : PySem.W.Frag} {mg : Str → Option Value} {B C : Str} {Ca : Addr} {c : Value} {b b' : Bool} (h1 : mg B = some (.ref Ca)) (h2 : mg C = some c) (h : PySem.W.exmOne K (.ref Ca) c = some b) (e : b' = b) : ∀ Cb, mg B = some (.ref Cb) → ∃ c, mg C = some c ∧ PySem.W.exmOne K (.ref Cb) c = some b' := fun Cb hb => by
  rw [h1] at hb
  cases hb
  exact ⟨c, h2, by rw [e]; exact h⟩
theorem lam_none {K : PySem.W.Frag} {mg : Str → Option Value} {x : Str} {st : Stmt} (I : LamIn K mg x st) : ∀ p, PySem.W.tabIn K x = some p → K.lookup p.2 = none := fun p hp => by
  obtain ⟨_, _, _, _, _, _, _, _, _, c, P, _, _, _, _, h1, h2⟩ := I.ex
  rw [h1] at hp
  cases hp
  exact h2
theorem tabL_nil {K : PySem.W.Frag} : ([] : List Str).map (PySem.W.tabIn K) = ([] : List (Addr × Addr)).map some := rfl
theorem tabL_cons {K : PySem.W.Frag} {x : Str} {xs : List Str} {p : Addr × Addr} {ps : List (Addr × Addr)} (h : PySem.W.tabIn K x = some p) (r : xs.map (PySem.W.tabIn K) = ps.map some) : (x :: xs).map (PySem.W.tabIn K) = (p :: ps).map some := by
  rw [List.map_cons, List.map_cons, h, r]
theorem tabL_mem {K : PySem.W.Frag} : ∀ {xs : List Str} {ps : List (Addr × Addr)}, xs.map (PySem.W.tabIn K) = ps.map some → ∀ x ∈ xs, ∀ p, PySem.W.tabIn K x = some p → p ∈ ps
  | [], _, _, x, hx, _, _ => by cases hx
  | y :: xs, [], h, _, _, _, _ => by simp at h
  | y :: xs, q :: ps, h, x, hx, p, hp => by
    rw [List.map_cons, List.map_cons] at h
    injection h with h1 h2
    rcases List.mem_cons.mp hx with rfl | hx
    · rw [h1] at hp
      cases hp
      exact List.mem_cons_self ..
    · exact List.mem_cons_of_mem _ (tabL_mem h2 x hx p hp)
theorem tabL_inj {K : PySem.W.Frag} : ∀ {xs : List Str} {ps : List (Addr × Addr)}, xs.map (PySem.W.tabIn K) = ps.map some → (ps.map (·.2)).Nodup → ∀ x ∈ xs, ∀ y ∈ xs, ∀ p q, PySem.W.tabIn K x = some p → PySem.W.tabIn K y = some q → p.2 = q.2 → x = y
  | [], _, _, _, x, hx, _, _, _, _, _, _, _ => by cases hx
  | z :: xs, [], h, _, _, _, _, _, _, _, _, _, _ => by simp at h
  | z :: xs, r :: ps, h, n, x, hx, y, hy, p, q, hp, hq, e => by
    rw [List.map_cons, List.map_cons] at h
    injection h with h1 h2
    rw [List.map_cons, List.nodup_cons] at n
    rcases List.mem_cons.mp hx with rfl | hx1
    · rcases List.mem_cons.mp hy with rfl | hy1
      · rfl
      · rw [h1] at hp
        cases hp
        exact absurd (List.mem_map.mpr ⟨q, tabL_mem h2 y hy1 q hq, e.symm⟩) n.1
    · rcases List.mem_cons.mp hy with rfl | hy1
      · rw [h1] at hq
        cases hq
        exact absurd (List.mem_map.mpr ⟨p, tabL_mem h2 x hx1 p hp, e⟩) n.1
      · exact tabL_inj h2 n.2 x hx1 y hy1 p q hp hq e
theorem tabsOk_mk {K : PySem.W.Frag} {ps : List (Addr × Addr)} (h : TabCtx.xs.map (PySem.W.tabIn K) = ps.map some) (n : (ps.map (·.2)).Nodup) : TabsOk K := tabL_inj h n
end Mm
end

section
/-! MmCl: facts of the head for lambdas, bit by bit. -/
namespace Mm
open PySem L2 PySem.Spec
variable [TabCtx]
theorem tabIn_of {K : PySem.W.Frag} {x : Str} {f c P : Addr} {oc oc2 : Value} {od od2 : Option Addr} {osl osl2 : Array (Option Value)} {fd : FuncData} {vs : Array Value}
    (a : PySem.W.nsIn K mainGlobals x = some (some (.ref f))) (l : K.lookup f = some ⟨oc, od, .func fd, osl⟩) (h : fd.code = .ref c) (k : K.lookup c = some ⟨oc2, od2, .fields vs, osl2⟩) (v : (vs[11]? : Option Value) = some (.ref P)) : PySem.W.tabIn K x = some (c, P) := by
  unfold PySem.W.tabIn
  rw [a]
  simp only [l, h, k, v]
theorem lamIn_mk2 {K : PySem.W.Frag} {h : Heap} {mg : Str → Option Value} {x : Str} {st : Stmt} {f c P : Addr} {oc oc2 : Value} {od od2 an : Option Addr} {osl osl2 : Array (Option Value)} {kV doc pm ct : Value} {vs : Array Value} (X : K.In h) (G : h.Ns mainGlobals mg)
    (a : PySem.W.nsIn K mainGlobals x = some (some (.ref f))) (l : K.lookup f = some ⟨oc, od, .func (PySem.W.fnOf x x (defArgs st) (defBody st) (defScope st) .none kV doc pm an (.ref c) ct), osl⟩) (cc : PySem.W.codeIn K (.ref c) x = true) (k : PySem.W.keepIn K (.ref f) = true)
    (lc : K.lookup c = some ⟨oc2, od2, .fields vs, osl2⟩) (v : (vs[11]? : Option Value) = some (.ref P)) (n : K.lookup P = none) : LamIn K mg x st := lamIn_mk X G a l cc k (tabIn_of a l rfl lc v) n
theorem xm_one2 {K : PySem.W.Frag} {mg : Str → Option Value} {B C : Str} {Ca : Addr} {c : Value} {b' : Bool} (h1 : mg B = some (.ref Ca)) (h2 : mg C = some c) (h : PySem.W.exmOne K (.ref Ca) c = some b') : ∀ Cb, mg B = some (.ref Cb) → ∃ c, mg C = some c ∧ PySem.W.exmOne K (.ref Cb) c = some b' := xm_one h1 h2 h rfl
end Mm
end

section
/-! MmCe: the end of a law that makes lambdas. -/
namespace Mm
open PySem L2 PySem.Spec LamX
open PyProof.Rows (envOfC Fr)
section
variable [TabCtx]
theorem end_ofT {l : PySem.W.OpenLaw} {k : Nat} {q : Program} {loose : List Str} {XP : (Str → Option Value) → Heap → Prop} {YP : World → Heap → Prop} {d : DefRec} {K : Params → PySem.W.Frag} {x y : Str} {st : Stmt} {f : F}
    (hn : l.most = some 63) (hdf : d.params.defaults = []) (hx : d.name = x) (hr : Room k PySem.callerA)
    (hY : ∀ (w : World) (h : Heap), YP w h → (K w.params).In h)
    (hbd : ∀ (kV doc pm : Value) (an : Option Addr) (cdv ct : Value) (u : Value), bindArgs (PySem.W.fnOf x x (defArgs st) (defBody st) (defScope st) .none kV doc pm an cdv ct) ⟨[u], []⟩ = pure [(y, u)])
    (recs : ∀ x ∈ TabCtx.xs, ((PyProof.Rows.recsOf q).find? fun e => e.name == x).isSome = true)
    (D : ∀ (w : World) (mg : Str → Option Value) (h : Heap), (K w.params).In h → h.Ns mainGlobals mg → (∀ x ∈ TabCtx.xs, ∀ p, PySem.W.tabIn (K w.params) x = some p → (K w.params).lookup p.2 = none) ∧ DefIn (K w.params) mg x st ∧
      ∀ base : Heap, TabsB (K w.params) mg base → FnM l.prog w (K w.params) mg base k x st [y] f)
    (hp : LawOk f) : PySem.W.WalkO q loose XP YP l.row.toRowW d [] (fun f vs => PySem.call f vs) := by
  refine Att.attach_callB hn hdf fun w s₀ s₁ mg mb fa o pm cd doc a vs ns G Y ho hd hcd hmg hobj hints hlen hbits hg => ?_
  have KX := hY w _ Y
  obtain ⟨hN, ⟨fa', fd, hm, F⟩, hF⟩ := D w mg _ KX G.T.g
  rw [hx] at hmg
  have e : fa' = fa := by rw [hmg] at hm; cases hm; rfl
  subst e
  have memT : ∀ p ∈ TabCtx.xs.filterMap (PySem.W.tabIn (K w.params)), ∃ z ∈ TabCtx.xs, PySem.W.tabIn (K w.params) z = some p := fun p hp => List.mem_filterMap.mp hp
  have look : ∀ p ∈ TabCtx.xs.filterMap (PySem.W.tabIn (K w.params)), PySem.W.CodeHd s₁.heap p.1 p.2 ∧ s₁.heap.get? p.2 = some { cls := .none, data := .fields #[] } := fun p hp => by
    obtain ⟨z, hz, e⟩ := memT p hp
    obtain ⟨dd, hdd⟩ := Option.isSome_iff_exists.mp (recs z hz)
    exact PySem.W.tab_of G.T KX hdd e
  refine law_callTs (cs := TabCtx.xs.filterMap (PySem.W.tabIn (K w.params))) (k := k) (x := y) (CX := L2.CX l.prog w) (sp := fun vs H Q E => Tabs (tabsOf (K w.params)) H ∧ spScript (K w.params) vs H Q E) (fd := fd) KX G.T.g G.T.b G.T.builtins G.T.nolimit hg
    (fun p hp => (look p hp).2) (fun p hp => ?_) (fun p hp => (look p hp).1) G.T.bmain hobj hints (Nat.le_trans hlen (by decide)) hr (fun base KB GB TB => ?_) (fun s u => ?_) (fun H hH hS => ⟨fun p hp => ?_, a, ns, rfl, hS, hlen, hbits, fun _ => rfl⟩) (fun H e s' z => ?_)
  · obtain ⟨z, hz, e⟩ := memT p hp
    exact hN z hz p e
  · obtain ⟨fb, fd', ok, hm', _, _, F'⟩ := (hF base fun z hz c P e => TB (c, P) (List.mem_filterMap.mpr ⟨z, hz, e⟩)).ex
    have e : fb = fa' := by rw [hm] at hm'; cases hm'; rfl
    subst e
    obtain ⟨_, _, _, _, _, _, _, _, _, _, lk, _⟩ := F.ex
    obtain ⟨_, _, _, _, _, _, _, _, _, _, lk', _⟩ := F'.ex
    have e2 : fd = fd' := by
      rw [lk] at lk'
      injection lk' with z
      injection z with _ _ z _
      injection z
    subst e2
    exact ok.imp fun vs H Q E h => script_of hp vs H Q E h.1 h.2
  · obtain ⟨oc, od, kV, doc, pm, an, cdv, ct, osl, rfl, lk, hcd⟩ := F.ex
    exact .of_eq (hbd kV doc pm an cdv ct u)
  · unfold tabsOf at hp
    obtain ⟨z, hz, ez⟩ := List.mem_filterMap.mp hp
    cases et : PySem.W.tabIn (K w.params) z with
    | none => rw [et] at ez; cases ez
    | some q =>
      rw [et] at ez
      cases ez
      exact TabS.nil (hH q (List.mem_filterMap.mpr ⟨z, hz, et⟩))
  · obtain ⟨_, _, _, _, _, _, _, _, _, _, _, _, z⟩ := z
    exact z.elim
end
end Mm
end

section
/-! MmS: runs that go well: how a mirror is run. -/
namespace Mm
open PySem L2
variable [TabCtx]

/-- the run ends well, with this -/
inductive Ok {α : Type} (r : R α) (Q : α → Sg → Prop) : Prop
  | mk (a : α) (S : Sg) (e : r = .ok a S) (q : Q a S) : Ok r Q
section
variable {α β : Type} {r : R α} {m : M α} {k : α → M β} {S : Sg} {sl : List Slot} {g : G} {Q : α → Sg → Prop} {Q' : β → Sg → Prop} {d x y : D} {i j : Int}
theorem Ok.imp {Q2 : α → Sg → Prop} (h : Ok r Q) (f : ∀ a S, Q a S → Q2 a S) : Ok r Q2 := by
  obtain ⟨a, S, e, q⟩ := h
  exact ⟨a, S, e, f a S q⟩
theorem Ok.get (h : Ok r Q) : ∃ a S, r = .ok a S ∧ Q a S := by
  obtain ⟨a, S, e, q⟩ := h
  exact ⟨a, S, e, q⟩
@[simp] theorem ok_ok {a : α} : Ok (.ok a S) Q ↔ Q a S := ⟨fun ⟨_, _, e, q⟩ => by cases e; exact q, fun q => ⟨_, _, rfl, q⟩⟩
@[simp] theorem ok_stuck : Ok (.stuck : R α) Q ↔ False := ⟨fun h => by obtain ⟨_, _, e, _⟩ := h; exact absurd e (fun z => by cases z), fun h => False.elim h⟩
@[simp] theorem ok_exc {C : Str} {fs : List (Str × D)} : Ok (.exc C fs S : R α) Q ↔ False := ⟨fun h => by obtain ⟨_, _, e, _⟩ := h; exact absurd e (fun z => by cases z), fun h => False.elim h⟩
@[simp] theorem ok_bind {k : α → Sg → R β} : Ok (r.bind k) Q' ↔ Ok r fun a S1 => Ok (k a S1) Q' := by cases r <;> (first | exact Iff.rfl | exact ok_ok | exact ok_stuck | exact ok_exc | exact ⟨fun h => ok_ok.mpr h, fun h => ok_ok.mp h⟩ | exact ⟨fun h => by have h' := ok_ok.mp h; exact ok_ok.mpr h', fun h => by have h' := ok_ok.mp h; exact ok_ok.mpr h'⟩ | exact ⟨fun h => (ok_exc.mp h).elim, fun h => (ok_exc.mp h).elim⟩ | exact ⟨fun h => (ok_stuck.mp h).elim, fun h => (ok_stuck.mp h).elim⟩ | exact ⟨fun h => (ok_stuck.mp h).elim, fun h => (ok_ok.mp h).elim⟩)
@[simp] theorem ok_bd : Ok (bd m k S) Q' ↔ Ok (m S) fun a S1 => Ok (k a S1) Q' := ok_bind
@[simp] theorem ok_ret {a : α} : Ok (ret a S) Q ↔ Q a S := ok_ok
@[simp] theorem ok_nope : Ok (nope S : R α) Q ↔ False := ok_stuck
@[simp] theorem ok_ite {c : Prop} [Decidable c] {r1 r2 : R α} : Ok (if c then r1 else r2) Q ↔ (c → Ok r1 Q) ∧ (¬ c → Ok r2 Q) := by
  by_cases h : c <;> simp [h]
@[simp] theorem ok_iteM {c : Prop} [Decidable c] {m1 m2 : M α} : Ok ((if c then m1 else m2) S) Q ↔ (c → Ok (m1 S) Q) ∧ (¬ c → Ok (m2 S) Q) := by
  by_cases h : c <;> simp [h]
/-! ### names -/
@[simp] theorem st_mk {i : Nat} {x : Slot} : Sg.st ⟨sl, g⟩ i x = ⟨sl.set i x, g⟩ := rfl
@[simp] theorem up_mk {g' : G} : Sg.up ⟨sl, g⟩ g' = ⟨sl, g'⟩ := rfl
theorem ok_rd {Q : D → Sg → Prop} {i : Nat} : Ok (rd i ⟨sl, g⟩) Q ↔ match sl[i]? with
  | some (.val d) => Q d ⟨sl, g⟩
  | some (.own (.lst xs)) => Q (.lst xs) ⟨sl.set i (.val (.lst xs)), g⟩
  | _ => False := by
  unfold rd
  show Ok (match sl[i]? with | some (.val d) => .ok d ⟨sl, g⟩ | some (.own (.lst xs)) => .ok (.lst xs) (Sg.st ⟨sl, g⟩ i (.val (.lst xs))) | _ => .stuck) Q ↔ _
  cases sl[i]? with
  | none => (first | exact Iff.rfl | exact ok_ok | exact ok_stuck | exact ok_exc | exact ⟨fun h => ok_ok.mpr h, fun h => ok_ok.mp h⟩ | exact ⟨fun h => by have h' := ok_ok.mp h; exact ok_ok.mpr h', fun h => by have h' := ok_ok.mp h; exact ok_ok.mpr h'⟩ | exact ⟨fun h => (ok_exc.mp h).elim, fun h => (ok_exc.mp h).elim⟩ | exact ⟨fun h => (ok_stuck.mp h).elim, fun h => (ok_stuck.mp h).elim⟩ | exact ⟨fun h => (ok_stuck.mp h).elim, fun h => (ok_ok.mp h).elim⟩)
  | some z =>
    cases z with
    | emp => (first | exact Iff.rfl | exact ok_ok | exact ok_stuck | exact ok_exc | exact ⟨fun h => ok_ok.mpr h, fun h => ok_ok.mp h⟩ | exact ⟨fun h => by have h' := ok_ok.mp h; exact ok_ok.mpr h', fun h => by have h' := ok_ok.mp h; exact ok_ok.mpr h'⟩ | exact ⟨fun h => (ok_exc.mp h).elim, fun h => (ok_exc.mp h).elim⟩ | exact ⟨fun h => (ok_stuck.mp h).elim, fun h => (ok_stuck.mp h).elim⟩ | exact ⟨fun h => (ok_stuck.mp h).elim, fun h => (ok_ok.mp h).elim⟩)
    | val d => (first | exact Iff.rfl | exact ok_ok | exact ok_stuck | exact ok_exc | exact ⟨fun h => ok_ok.mpr h, fun h => ok_ok.mp h⟩ | exact ⟨fun h => by have h' := ok_ok.mp h; exact ok_ok.mpr h', fun h => by have h' := ok_ok.mp h; exact ok_ok.mpr h'⟩ | exact ⟨fun h => (ok_exc.mp h).elim, fun h => (ok_exc.mp h).elim⟩ | exact ⟨fun h => (ok_stuck.mp h).elim, fun h => (ok_stuck.mp h).elim⟩ | exact ⟨fun h => (ok_stuck.mp h).elim, fun h => (ok_ok.mp h).elim⟩)
    | own c => cases c <;> (first | exact Iff.rfl | exact ok_ok | exact ok_stuck | exact ok_exc | exact ⟨fun h => ok_ok.mpr h, fun h => ok_ok.mp h⟩ | exact ⟨fun h => by have h' := ok_ok.mp h; exact ok_ok.mpr h', fun h => by have h' := ok_ok.mp h; exact ok_ok.mpr h'⟩ | exact ⟨fun h => (ok_exc.mp h).elim, fun h => (ok_exc.mp h).elim⟩ | exact ⟨fun h => (ok_stuck.mp h).elim, fun h => (ok_stuck.mp h).elim⟩ | exact ⟨fun h => (ok_stuck.mp h).elim, fun h => (ok_ok.mp h).elim⟩)
theorem ok_hdN {Q : Hd → Sg → Prop} {i : Nat} : Ok (hdN i ⟨sl, g⟩) Q ↔ match sl[i]? with
  | some (.val d) => Q (.d d) ⟨sl, g⟩
  | some (.own (.lst _)) => Q (.sl i) ⟨sl, g⟩
  | _ => False := by
  unfold hdN
  show Ok (match sl[i]? with | some (.val d) => .ok (.d d) ⟨sl, g⟩ | some (.own (.lst _)) => .ok (.sl i) ⟨sl, g⟩ | _ => .stuck) Q ↔ _
  cases sl[i]? with
  | none => (first | exact Iff.rfl | exact ok_ok | exact ok_stuck | exact ok_exc | exact ⟨fun h => ok_ok.mpr h, fun h => ok_ok.mp h⟩ | exact ⟨fun h => by have h' := ok_ok.mp h; exact ok_ok.mpr h', fun h => by have h' := ok_ok.mp h; exact ok_ok.mpr h'⟩ | exact ⟨fun h => (ok_exc.mp h).elim, fun h => (ok_exc.mp h).elim⟩ | exact ⟨fun h => (ok_stuck.mp h).elim, fun h => (ok_stuck.mp h).elim⟩ | exact ⟨fun h => (ok_stuck.mp h).elim, fun h => (ok_ok.mp h).elim⟩)
  | some z =>
    cases z with
    | emp => (first | exact Iff.rfl | exact ok_ok | exact ok_stuck | exact ok_exc | exact ⟨fun h => ok_ok.mpr h, fun h => ok_ok.mp h⟩ | exact ⟨fun h => by have h' := ok_ok.mp h; exact ok_ok.mpr h', fun h => by have h' := ok_ok.mp h; exact ok_ok.mpr h'⟩ | exact ⟨fun h => (ok_exc.mp h).elim, fun h => (ok_exc.mp h).elim⟩ | exact ⟨fun h => (ok_stuck.mp h).elim, fun h => (ok_stuck.mp h).elim⟩ | exact ⟨fun h => (ok_stuck.mp h).elim, fun h => (ok_ok.mp h).elim⟩)
    | val d => (first | exact Iff.rfl | exact ok_ok | exact ok_stuck | exact ok_exc | exact ⟨fun h => ok_ok.mpr h, fun h => ok_ok.mp h⟩ | exact ⟨fun h => by have h' := ok_ok.mp h; exact ok_ok.mpr h', fun h => by have h' := ok_ok.mp h; exact ok_ok.mpr h'⟩ | exact ⟨fun h => (ok_exc.mp h).elim, fun h => (ok_exc.mp h).elim⟩ | exact ⟨fun h => (ok_stuck.mp h).elim, fun h => (ok_stuck.mp h).elim⟩ | exact ⟨fun h => (ok_stuck.mp h).elim, fun h => (ok_ok.mp h).elim⟩)
    | own c => cases c <;> (first | exact Iff.rfl | exact ok_ok | exact ok_stuck | exact ok_exc | exact ⟨fun h => ok_ok.mpr h, fun h => ok_ok.mp h⟩ | exact ⟨fun h => by have h' := ok_ok.mp h; exact ok_ok.mpr h', fun h => by have h' := ok_ok.mp h; exact ok_ok.mpr h'⟩ | exact ⟨fun h => (ok_exc.mp h).elim, fun h => (ok_exc.mp h).elim⟩ | exact ⟨fun h => (ok_stuck.mp h).elim, fun h => (ok_stuck.mp h).elim⟩ | exact ⟨fun h => (ok_stuck.mp h).elim, fun h => (ok_ok.mp h).elim⟩)
theorem ok_plN {Q : Pl → Sg → Prop} {i : Nat} : Ok (plN i ⟨sl, g⟩) Q ↔ match sl[i]? with
  | some (.val (.box r)) => Q (.bx r) ⟨sl, g⟩
  | some (.own _) => Q (.sl i) ⟨sl, g⟩
  | _ => False := by
  unfold plN
  show Ok (match sl[i]? with | some (.val (.box r)) => .ok (.bx r) ⟨sl, g⟩ | some (.own _) => .ok (.sl i) ⟨sl, g⟩ | _ => .stuck) Q ↔ _
  cases sl[i]? with
  | none => (first | exact Iff.rfl | exact ok_ok | exact ok_stuck | exact ok_exc | exact ⟨fun h => ok_ok.mpr h, fun h => ok_ok.mp h⟩ | exact ⟨fun h => by have h' := ok_ok.mp h; exact ok_ok.mpr h', fun h => by have h' := ok_ok.mp h; exact ok_ok.mpr h'⟩ | exact ⟨fun h => (ok_exc.mp h).elim, fun h => (ok_exc.mp h).elim⟩ | exact ⟨fun h => (ok_stuck.mp h).elim, fun h => (ok_stuck.mp h).elim⟩ | exact ⟨fun h => (ok_stuck.mp h).elim, fun h => (ok_ok.mp h).elim⟩)
  | some z =>
    cases z with
    | emp => (first | exact Iff.rfl | exact ok_ok | exact ok_stuck | exact ok_exc | exact ⟨fun h => ok_ok.mpr h, fun h => ok_ok.mp h⟩ | exact ⟨fun h => by have h' := ok_ok.mp h; exact ok_ok.mpr h', fun h => by have h' := ok_ok.mp h; exact ok_ok.mpr h'⟩ | exact ⟨fun h => (ok_exc.mp h).elim, fun h => (ok_exc.mp h).elim⟩ | exact ⟨fun h => (ok_stuck.mp h).elim, fun h => (ok_stuck.mp h).elim⟩ | exact ⟨fun h => (ok_stuck.mp h).elim, fun h => (ok_ok.mp h).elim⟩)
    | val d => cases d <;> (first | exact Iff.rfl | exact ok_ok | exact ok_stuck | exact ok_exc | exact ⟨fun h => ok_ok.mpr h, fun h => ok_ok.mp h⟩ | exact ⟨fun h => by have h' := ok_ok.mp h; exact ok_ok.mpr h', fun h => by have h' := ok_ok.mp h; exact ok_ok.mpr h'⟩ | exact ⟨fun h => (ok_exc.mp h).elim, fun h => (ok_exc.mp h).elim⟩ | exact ⟨fun h => (ok_stuck.mp h).elim, fun h => (ok_stuck.mp h).elim⟩ | exact ⟨fun h => (ok_stuck.mp h).elim, fun h => (ok_ok.mp h).elim⟩)
    | own c => cases c <;> (first | exact Iff.rfl | exact ok_ok | exact ok_stuck | exact ok_exc | exact ⟨fun h => ok_ok.mpr h, fun h => ok_ok.mp h⟩ | exact ⟨fun h => by have h' := ok_ok.mp h; exact ok_ok.mpr h', fun h => by have h' := ok_ok.mp h; exact ok_ok.mpr h'⟩ | exact ⟨fun h => (ok_exc.mp h).elim, fun h => (ok_exc.mp h).elim⟩ | exact ⟨fun h => (ok_stuck.mp h).elim, fun h => (ok_stuck.mp h).elim⟩ | exact ⟨fun h => (ok_stuck.mp h).elim, fun h => (ok_ok.mp h).elim⟩)
theorem ok_rdB {Q : D → Sg → Prop} {i : Nat} : Ok (rdB i ⟨sl, g⟩) Q ↔ match sl[i]? with
  | some (.own x) => Q (.box g.nx) ⟨sl.set i (.val (.box g.nx)), g.add x⟩
  | some (.val (.box r)) => Q (.box r) ⟨sl, g⟩
  | _ => False := by
  unfold rdB
  show Ok (match sl[i]? with | some (.own x) => .ok (.box g.nx) (Sg.up (Sg.st ⟨sl, g⟩ i (.val (.box g.nx))) (g.add x)) | some (.val (.box r)) => .ok (.box r) ⟨sl, g⟩ | _ => .stuck) Q ↔ _
  cases sl[i]? with
  | none => (first | exact Iff.rfl | exact ok_ok | exact ok_stuck | exact ok_exc | exact ⟨fun h => ok_ok.mpr h, fun h => ok_ok.mp h⟩ | exact ⟨fun h => by have h' := ok_ok.mp h; exact ok_ok.mpr h', fun h => by have h' := ok_ok.mp h; exact ok_ok.mpr h'⟩ | exact ⟨fun h => (ok_exc.mp h).elim, fun h => (ok_exc.mp h).elim⟩ | exact ⟨fun h => (ok_stuck.mp h).elim, fun h => (ok_stuck.mp h).elim⟩ | exact ⟨fun h => (ok_stuck.mp h).elim, fun h => (ok_ok.mp h).elim⟩)
  | some z =>
    cases z with
    | emp => (first | exact Iff.rfl | exact ok_ok | exact ok_stuck | exact ok_exc | exact ⟨fun h => ok_ok.mpr h, fun h => ok_ok.mp h⟩ | exact ⟨fun h => by have h' := ok_ok.mp h; exact ok_ok.mpr h', fun h => by have h' := ok_ok.mp h; exact ok_ok.mpr h'⟩ | exact ⟨fun h => (ok_exc.mp h).elim, fun h => (ok_exc.mp h).elim⟩ | exact ⟨fun h => (ok_stuck.mp h).elim, fun h => (ok_stuck.mp h).elim⟩ | exact ⟨fun h => (ok_stuck.mp h).elim, fun h => (ok_ok.mp h).elim⟩)
    | val d => cases d <;> (first | exact Iff.rfl | exact ok_ok | exact ok_stuck | exact ok_exc | exact ⟨fun h => ok_ok.mpr h, fun h => ok_ok.mp h⟩ | exact ⟨fun h => by have h' := ok_ok.mp h; exact ok_ok.mpr h', fun h => by have h' := ok_ok.mp h; exact ok_ok.mpr h'⟩ | exact ⟨fun h => (ok_exc.mp h).elim, fun h => (ok_exc.mp h).elim⟩ | exact ⟨fun h => (ok_stuck.mp h).elim, fun h => (ok_stuck.mp h).elim⟩ | exact ⟨fun h => (ok_stuck.mp h).elim, fun h => (ok_ok.mp h).elim⟩)
    | own c => (first | exact Iff.rfl | exact ok_ok | exact ok_stuck | exact ok_exc | exact ⟨fun h => ok_ok.mpr h, fun h => ok_ok.mp h⟩ | exact ⟨fun h => by have h' := ok_ok.mp h; exact ok_ok.mpr h', fun h => by have h' := ok_ok.mp h; exact ok_ok.mpr h'⟩ | exact ⟨fun h => (ok_exc.mp h).elim, fun h => (ok_exc.mp h).elim⟩ | exact ⟨fun h => (ok_stuck.mp h).elim, fun h => (ok_stuck.mp h).elim⟩ | exact ⟨fun h => (ok_stuck.mp h).elim, fun h => (ok_ok.mp h).elim⟩)
/-! ### calls, defs -/
theorem ok_callM {Q : D → Sg → Prop} {f : F} {ms : M (List D)} : Ok (callM f ms S) Q ↔ Ok (ms S) fun ds S1 => Ok (f ds ⟨[], S1.g⟩) fun d S2 => Q d ⟨S1.sl, S2.g⟩ := by
  unfold callM
  rw [ok_bd]
  have e : ∀ ds S1, Ok (inF (f ds) S1) Q ↔ Ok (f ds ⟨[], S1.g⟩) fun d S2 => Q d ⟨S1.sl, S2.g⟩ := fun ds S1 => by
    unfold inF
    cases f ds ⟨[], S1.g⟩ <;> (first | exact Iff.rfl | exact ok_ok | exact ok_stuck | exact ok_exc | exact ⟨fun h => ok_ok.mpr h, fun h => ok_ok.mp h⟩ | exact ⟨fun h => by have h' := ok_ok.mp h; exact ok_ok.mpr h', fun h => by have h' := ok_ok.mp h; exact ok_ok.mpr h'⟩ | exact ⟨fun h => (ok_exc.mp h).elim, fun h => (ok_exc.mp h).elim⟩ | exact ⟨fun h => (ok_stuck.mp h).elim, fun h => (ok_stuck.mp h).elim⟩ | exact ⟨fun h => (ok_stuck.mp h).elim, fun h => (ok_ok.mp h).elim⟩)
  simp only [e]
theorem ok_inF {Q : D → Sg → Prop} {f : M D} : Ok (inF f S) Q ↔ Ok (f ⟨[], S.g⟩) fun d S2 => Q d ⟨S.sl, S2.g⟩ := by
  unfold inF
  cases f ⟨[], S.g⟩ <;> (first | exact Iff.rfl | exact ok_ok | exact ok_stuck | exact ok_exc | exact ⟨fun h => ok_ok.mpr h, fun h => ok_ok.mp h⟩ | exact ⟨fun h => by have h' := ok_ok.mp h; exact ok_ok.mpr h', fun h => by have h' := ok_ok.mp h; exact ok_ok.mpr h'⟩ | exact ⟨fun h => (ok_exc.mp h).elim, fun h => (ok_exc.mp h).elim⟩ | exact ⟨fun h => (ok_stuck.mp h).elim, fun h => (ok_stuck.mp h).elim⟩ | exact ⟨fun h => (ok_stuck.mp h).elim, fun h => (ok_ok.mp h).elim⟩)
def endQ (Q : D → Sg → Prop) : Fl → Sg → Prop
  | .nx, S => Q .non ⟨[], S.g⟩
  | .rt d, S => Q d ⟨[], S.g⟩
  | _, _ => False
@[simp] theorem endQ_nx {Q : D → Sg → Prop} : endQ Q .nx S ↔ Q .non ⟨[], S.g⟩ := Iff.rfl
@[simp] theorem endQ_rt {Q : D → Sg → Prop} : endQ Q (.rt d) S ↔ Q d ⟨[], S.g⟩ := Iff.rfl
theorem ok_runF {Q : D → Sg → Prop} {n : Nat} {b : M Fl} {ds : List D} : Ok (runF n b ds ⟨[], g⟩) Q ↔ Ok (b ⟨slots n ds, g⟩) (endQ Q) := by
  unfold runF
  show Ok (finR (b ⟨slots n ds, g⟩)) Q ↔ _
  cases b ⟨slots n ds, g⟩ with
  | ok f S' => cases f <;> (first | exact Iff.rfl | exact ok_ok | exact ok_stuck | exact ok_exc | exact ⟨fun h => ok_ok.mpr h, fun h => ok_ok.mp h⟩ | exact ⟨fun h => by have h' := ok_ok.mp h; exact ok_ok.mpr h', fun h => by have h' := ok_ok.mp h; exact ok_ok.mpr h'⟩ | exact ⟨fun h => (ok_exc.mp h).elim, fun h => (ok_exc.mp h).elim⟩ | exact ⟨fun h => (ok_stuck.mp h).elim, fun h => (ok_stuck.mp h).elim⟩ | exact ⟨fun h => (ok_stuck.mp h).elim, fun h => (ok_ok.mp h).elim⟩)
  | exc _ _ _ => (first | exact Iff.rfl | exact ok_ok | exact ok_stuck | exact ok_exc | exact ⟨fun h => ok_ok.mpr h, fun h => ok_ok.mp h⟩ | exact ⟨fun h => by have h' := ok_ok.mp h; exact ok_ok.mpr h', fun h => by have h' := ok_ok.mp h; exact ok_ok.mpr h'⟩ | exact ⟨fun h => (ok_exc.mp h).elim, fun h => (ok_exc.mp h).elim⟩ | exact ⟨fun h => (ok_stuck.mp h).elim, fun h => (ok_stuck.mp h).elim⟩ | exact ⟨fun h => (ok_stuck.mp h).elim, fun h => (ok_ok.mp h).elim⟩)
  | stuck => (first | exact Iff.rfl | exact ok_ok | exact ok_stuck | exact ok_exc | exact ⟨fun h => ok_ok.mpr h, fun h => ok_ok.mp h⟩ | exact ⟨fun h => by have h' := ok_ok.mp h; exact ok_ok.mpr h', fun h => by have h' := ok_ok.mp h; exact ok_ok.mpr h'⟩ | exact ⟨fun h => (ok_exc.mp h).elim, fun h => (ok_exc.mp h).elim⟩ | exact ⟨fun h => (ok_stuck.mp h).elim, fun h => (ok_stuck.mp h).elim⟩ | exact ⟨fun h => (ok_stuck.mp h).elim, fun h => (ok_ok.mp h).elim⟩)
@[simp] theorem ok_nilM {Q : List D → Sg → Prop} : Ok (nilM S) Q ↔ Q [] S := ok_ok
@[simp] theorem ok_consM {Q : List D → Sg → Prop} {m : M D} {ms : M (List D)} : Ok (consM m ms S) Q ↔ Ok (m S) fun d S1 => Ok (ms S1) fun ds S2 => Q (d :: ds) S2 := by
  unfold consM
  simp only [ok_bd, ok_ret]
/-! ### statements -/
def seqQ (b : M Fl) (Q : Fl → Sg → Prop) : Fl → Sg → Prop
  | .nx, S => Ok (b S) Q
  | f, S => Q f S
@[simp] theorem seqQ_nx {b : M Fl} {Q : Fl → Sg → Prop} : seqQ b Q .nx S ↔ Ok (b S) Q := Iff.rfl
@[simp] theorem seqQ_rt {b : M Fl} {Q : Fl → Sg → Prop} : seqQ b Q (.rt d) S ↔ Q (.rt d) S := Iff.rfl
@[simp] theorem seqQ_bk {b : M Fl} {Q : Fl → Sg → Prop} : seqQ b Q .bk S ↔ Q .bk S := Iff.rfl
@[simp] theorem seqQ_ct {b : M Fl} {Q : Fl → Sg → Prop} : seqQ b Q .ct S ↔ Q .ct S := Iff.rfl
theorem ok_seqM {a b : M Fl} {Q : Fl → Sg → Prop} : Ok (seqM a b S) Q ↔ Ok (a S) (seqQ b Q) := by
  unfold seqM bd
  cases a S with
  | ok f S1 => cases f <;> (first | exact Iff.rfl | exact ok_ok | exact ok_stuck | exact ok_exc | exact ⟨fun h => ok_ok.mpr h, fun h => ok_ok.mp h⟩ | exact ⟨fun h => by have h' := ok_ok.mp h; exact ok_ok.mpr h', fun h => by have h' := ok_ok.mp h; exact ok_ok.mpr h'⟩ | exact ⟨fun h => (ok_exc.mp h).elim, fun h => (ok_exc.mp h).elim⟩ | exact ⟨fun h => (ok_stuck.mp h).elim, fun h => (ok_stuck.mp h).elim⟩ | exact ⟨fun h => (ok_stuck.mp h).elim, fun h => (ok_ok.mp h).elim⟩)
  | exc _ _ _ => (first | exact Iff.rfl | exact ok_ok | exact ok_stuck | exact ok_exc | exact ⟨fun h => ok_ok.mpr h, fun h => ok_ok.mp h⟩ | exact ⟨fun h => by have h' := ok_ok.mp h; exact ok_ok.mpr h', fun h => by have h' := ok_ok.mp h; exact ok_ok.mpr h'⟩ | exact ⟨fun h => (ok_exc.mp h).elim, fun h => (ok_exc.mp h).elim⟩ | exact ⟨fun h => (ok_stuck.mp h).elim, fun h => (ok_stuck.mp h).elim⟩ | exact ⟨fun h => (ok_stuck.mp h).elim, fun h => (ok_ok.mp h).elim⟩)
  | stuck => (first | exact Iff.rfl | exact ok_ok | exact ok_stuck | exact ok_exc | exact ⟨fun h => ok_ok.mpr h, fun h => ok_ok.mp h⟩ | exact ⟨fun h => by have h' := ok_ok.mp h; exact ok_ok.mpr h', fun h => by have h' := ok_ok.mp h; exact ok_ok.mpr h'⟩ | exact ⟨fun h => (ok_exc.mp h).elim, fun h => (ok_exc.mp h).elim⟩ | exact ⟨fun h => (ok_stuck.mp h).elim, fun h => (ok_stuck.mp h).elim⟩ | exact ⟨fun h => (ok_stuck.mp h).elim, fun h => (ok_ok.mp h).elim⟩)
@[simp] theorem ok_setM {i : Nat} {m : M D} {Q : Fl → Sg → Prop} : Ok (setM i m S) Q ↔ Ok (m S) fun d S1 => Q .nx (S1.st i (.val d)) := by unfold setM; simp only [ok_bd, ok_ok]
@[simp] theorem ok_ownM {i : Nat} {m : M Cell} {Q : Fl → Sg → Prop} : Ok (ownM i m S) Q ↔ Ok (m S) fun x S1 => Q .nx (S1.st i (.own x)) := by unfold ownM; simp only [ok_bd, ok_ok]
@[simp] theorem ok_retM {m : M D} {Q : Fl → Sg → Prop} : Ok (retM m S) Q ↔ Ok (m S) fun d S1 => Q (.rt d) S1 := by unfold retM; simp only [ok_bd, ok_ret]
@[simp] theorem ok_exprM {m : M D} {Q : Fl → Sg → Prop} : Ok (exprM m S) Q ↔ Ok (m S) fun d S1 => Q .nx S1 := by unfold exprM; simp only [ok_bd, ok_ret]
theorem ok_ifM {t : M Bool} {a b : M α} : Ok (ifM t a b S) Q ↔ Ok (t S) fun k S1 => if k = true then Ok (a S1) Q else Ok (b S1) Q := by
  unfold ifM
  rw [ok_bd]
  have e : ∀ (k : Bool) (S1 : Sg), Ok ((if k = true then a else b) S1) Q ↔ if k = true then Ok (a S1) Q else Ok (b S1) Q := fun k S1 => by cases k <;> (first | exact Iff.rfl | exact ok_ok | exact ok_stuck | exact ok_exc | exact ⟨fun h => ok_ok.mpr h, fun h => ok_ok.mp h⟩ | exact ⟨fun h => by have h' := ok_ok.mp h; exact ok_ok.mpr h', fun h => by have h' := ok_ok.mp h; exact ok_ok.mpr h'⟩ | exact ⟨fun h => (ok_exc.mp h).elim, fun h => (ok_exc.mp h).elim⟩ | exact ⟨fun h => (ok_stuck.mp h).elim, fun h => (ok_stuck.mp h).elim⟩ | exact ⟨fun h => (ok_stuck.mp h).elim, fun h => (ok_ok.mp h).elim⟩)
  simp only [e]
@[simp] theorem ok_asB {Q : Bool → Sg → Prop} {b : Bool} : Ok (asB (.bl b) S) Q ↔ Q b S := ok_ok
@[simp] theorem ok_iop {Q : D → Sg → Prop} {f : Int → Int → M D} : Ok (iop f (.int i) (.int j) S) Q ↔ Ok (f i j S) Q := Iff.rfl
@[simp] theorem ok_addI {Q : D → Sg → Prop} : Ok (addI (.int i) (.int j) S) Q ↔ Q (.int (i + j)) S := ok_ok
@[simp] theorem ok_subI {Q : D → Sg → Prop} : Ok (subI (.int i) (.int j) S) Q ↔ Q (.int (i - j)) S := ok_ok
theorem ok_guard {c : Prop} [Decidable c] {a : α} : Ok ((if c then ret a else nope : M α) S) Q ↔ c ∧ Q a S := by
  by_cases h : c <;> simp [h]
@[simp] theorem ok_mulI {Q : D → Sg → Prop} : Ok (mulI (.int i) (.int j) S) Q ↔ CMulW i j ∧ Q (.int (i * j)) S := ok_guard
@[simp] theorem ok_divI {Q : D → Sg → Prop} : Ok (divI (.int i) (.int j) S) Q ↔ CDivW i j ∧ Q (.int (i / j)) S := ok_guard
@[simp] theorem ok_modI {Q : D → Sg → Prop} : Ok (modI (.int i) (.int j) S) Q ↔ 0 < j ∧ Q (.int (i % j)) S := ok_guard
@[simp] theorem ok_powI {Q : D → Sg → Prop} : Ok (powI (.int i) (.int j) S) Q ↔ CPow i j ∧ Q (.int (i ^ j.toNat)) S := ok_guard
@[simp] theorem ok_ltI {Q : D → Sg → Prop} : Ok (ltI (.int i) (.int j) S) Q ↔ Q (.bl (decide (i < j))) S := ok_ok
@[simp] theorem ok_leI {Q : D → Sg → Prop} : Ok (leI (.int i) (.int j) S) Q ↔ Q (.bl (decide (i ≤ j))) S := ok_ok
@[simp] theorem ok_gtI {Q : D → Sg → Prop} : Ok (gtI (.int i) (.int j) S) Q ↔ Q (.bl (decide (j < i))) S := ok_ok
@[simp] theorem ok_geI {Q : D → Sg → Prop} : Ok (geI (.int i) (.int j) S) Q ↔ Q (.bl (decide (j ≤ i))) S := ok_ok
@[simp] theorem ok_bop {Q : D → Sg → Prop} {f : D → D → M D} {a b : M D} : Ok (bop f a b S) Q ↔ Ok (a S) fun x S1 => Ok (b S1) fun y S2 => Ok (f x y S2) Q := by unfold bop; simp only [ok_bd]
@[simp] theorem ok_bopT {Q : Bool → Sg → Prop} {f : D → D → M D} {a b : M D} : Ok (bopT f a b S) Q ↔ Ok (a S) fun x S1 => Ok (b S1) fun y S2 => Ok (f x y S2) fun z S3 => Ok (asB z S3) Q := by unfold bopT; simp only [ok_bd, ok_bop]
theorem ok_notM {m : M Bool} {Q : Bool → Sg → Prop} : Ok (notM m S) Q ↔ Ok (m S) fun b S1 => Q (!b) S1 := by unfold notM; simp only [ok_bd, ok_ret]
theorem ok_andM {a b : M Bool} {Q : Bool → Sg → Prop} : Ok (andM a b S) Q ↔ Ok (a S) fun x S1 => if x = true then Ok (b S1) Q else Q false S1 := by
  unfold andM
  rw [ok_bd]
  have e : ∀ (k : Bool) (S1 : Sg), Ok ((if k = true then b else ret false) S1) Q ↔ if k = true then Ok (b S1) Q else Q false S1 := fun k S1 => by cases k <;> (first | exact Iff.rfl | exact ok_ok | exact ok_stuck | exact ok_exc | exact ⟨fun h => ok_ok.mpr h, fun h => ok_ok.mp h⟩ | exact ⟨fun h => by have h' := ok_ok.mp h; exact ok_ok.mpr h', fun h => by have h' := ok_ok.mp h; exact ok_ok.mpr h'⟩ | exact ⟨fun h => (ok_exc.mp h).elim, fun h => (ok_exc.mp h).elim⟩ | exact ⟨fun h => (ok_stuck.mp h).elim, fun h => (ok_stuck.mp h).elim⟩ | exact ⟨fun h => (ok_stuck.mp h).elim, fun h => (ok_ok.mp h).elim⟩)
  simp only [e]
theorem ok_orM {a b : M Bool} {Q : Bool → Sg → Prop} : Ok (orM a b S) Q ↔ Ok (a S) fun x S1 => if x = true then Q true S1 else Ok (b S1) Q := by
  unfold orM
  rw [ok_bd]
  have e : ∀ (k : Bool) (S1 : Sg), Ok ((if k = true then ret true else b) S1) Q ↔ if k = true then Q true S1 else Ok (b S1) Q := fun k S1 => by cases k <;> (first | exact Iff.rfl | exact ok_ok | exact ok_stuck | exact ok_exc | exact ⟨fun h => ok_ok.mpr h, fun h => ok_ok.mp h⟩ | exact ⟨fun h => by have h' := ok_ok.mp h; exact ok_ok.mpr h', fun h => by have h' := ok_ok.mp h; exact ok_ok.mpr h'⟩ | exact ⟨fun h => (ok_exc.mp h).elim, fun h => (ok_exc.mp h).elim⟩ | exact ⟨fun h => (ok_stuck.mp h).elim, fun h => (ok_stuck.mp h).elim⟩ | exact ⟨fun h => (ok_stuck.mp h).elim, fun h => (ok_ok.mp h).elim⟩)
  simp only [e]
/-! ### walks -/
theorem ok_forM {T : Tg} {b : M Fl} {s : Src} {Q : Fl → Sg → Prop} (I : Nat → Sg → Prop) (hok : ∀ i S, i ≤ s.ds.length → I i S → s.ok S) (h0 : I 0 S)
    (step : ∀ i d S, s.ds[i]? = some d → I i S → ∃ S1, asg T d S = some S1 ∧ Ok (b S1) fun f S2 => match f with | .nx => I (i + 1) S2 | .ct => I (i + 1) S2 | .bk => Q .nx S2 | .rt d => Q (.rt d) S2)
    (fin : ∀ S, I s.ds.length S → Q .nx S) : Ok (forM T b s S) Q := by
  obtain ⟨ds, ok⟩ := s
  show Ok (forG T b ok ds S) Q
  have go : ∀ (n i : Nat) (S : Sg), ds.length - i = n → i ≤ ds.length → I i S → Ok (forG T b ok (ds.drop i) S) Q := by
    intro n
    induction n with
    | zero =>
      intro i S hn hi h
      have e : i = ds.length := by omega
      subst e
      rw [List.drop_length]
      simp only [forG, if_pos (hok _ _ (Nat.le_refl _) h)]
      exact ok_ok.mpr (fin S h)
    | succ n ih =>
      intro i S hn hi h
      have hlt : i < ds.length := by omega
      rw [List.drop_eq_getElem_cons hlt]
      simp only [forG, if_pos (hok _ _ hi h)]
      obtain ⟨S1, e1, h1⟩ := step i ds[i] S (List.getElem?_eq_getElem hlt) h
      simp only [e1]
      rw [ok_bind]
      refine h1.imp fun f S2 h2 => ?_
      cases f with
      | nx => exact ih (i + 1) S2 (by omega) hlt h2
      | ct => exact ih (i + 1) S2 (by omega) hlt h2
      | bk => exact ok_ok.mpr h2
      | rt d => exact ok_ok.mpr h2
  exact go _ 0 S rfl (Nat.zero_le _) h0
theorem ok_whM {t : M Bool} {b : M Fl} {Q : Fl → Sg → Prop} (I : Nat → Sg → Prop) (n : Nat) (h0 : I n S)
    (step : ∀ n S, I n S → Ok (t S) fun k S1 => if k = true then Ok (b S1) fun f S2 => (match f with | .nx => ∃ m, m < n ∧ I m S2 | .ct => ∃ m, m < n ∧ I m S2 | .bk => Q .nx S2 | .rt d => Q (.rt d) S2) else Q .nx S1) : Ok (whM t b S) Q := by
  induction n using Nat.strongRecOn generalizing S with
  | _ n ih =>
    rw [whM_step, ok_bind]
    refine (step n S h0).imp fun k S1 h1 => ?_
    cases k with
    | false => exact ok_ok.mpr h1
    | true =>
      have h1 : Ok (b S1) _ := h1
      show Ok (bd b _ S1) Q
      rw [ok_bd]
      refine h1.imp fun f S2 h2 => ?_
      cases f with
      | nx => obtain ⟨m, hm, hI⟩ := h2; exact ih m hm hI
      | ct => obtain ⟨m, hm, hI⟩ := h2; exact ih m hm hI
      | bk => exact ok_ok.mpr h2
      | rt d => exact ok_ok.mpr h2
end
end Mm
end

section
/-! MmT: how a mirror is run: sequences, places, comprehensions. -/
namespace Mm
open PySem L2
variable [TabCtx]
section
variable {α β : Type} {S : Sg} {sl : List Slot} {g : G} {d x y : D} {i j : Int} {xs ys : List D} {r : Nat}
/-- there is one, and of it .. -/
def onO {α : Type} (o : Option α) (p : α → Prop) : Prop := ∃ a, o = some a ∧ p a
@[simp] theorem onO_some {α : Type} {a : α} {p : α → Prop} : onO (some a) p ↔ p a := by simp [onO]
@[simp] theorem onO_none {α : Type} {p : α → Prop} : onO (none : Option α) p ↔ False := by simp [onO]
def onL (o : Option Cell) (p : List D → Prop) : Prop := ∃ xs, o = some (.lst xs) ∧ p xs
@[simp] theorem onL_lst {xs : List D} {p : List D → Prop} : onL (some (.lst xs)) p ↔ p xs := by simp [onL]
theorem ok_congr {r : R α} {Q1 Q2 : α → Sg → Prop} (h : ∀ a S, Q1 a S ↔ Q2 a S) : Ok r Q1 ↔ Ok r Q2 := ⟨fun q => q.imp fun a S => (h a S).mp, fun q => q.imp fun a S => (h a S).mpr⟩
@[simp] theorem vw_lst : vwH S (.d (.lst xs)) = some (true, xs) := rfl
@[simp] theorem vw_tup : vwH S (.d (.tup xs)) = some (false, xs) := rfl
@[simp] theorem vwD_lst : vwD S (.lst xs) = some (true, xs) := rfl
@[simp] theorem vwD_tup : vwD S (.tup xs) = some (false, xs) := rfl
theorem vw_box (h : S.g.cs r = some (.lst xs)) : vwH S (.d (.box r)) = some (true, xs) := by show vwD S (.box r) = _; unfold vwD; simp only [h]
theorem vwD_box (h : S.g.cs r = some (.lst xs)) : vwD S (.box r) = some (true, xs) := by unfold vwD; simp only [h]
@[simp] theorem ok_hdE {Q : Hd → Sg → Prop} {m : M D} : Ok (hdE m S) Q ↔ Ok (m S) fun d S1 => Q (.d d) S1 := by unfold hdE; simp only [ok_bd, ok_ret]
theorem ok_seeI {Q : Vw → Sg → Prop} {h : Hd} : Ok (see h S) Q ↔ onO (vwH S h) fun v => Q v S := by
  unfold see optM
  cases e : vwH S h with
  | none => simp [Ok]
  | some v => simp [Ok]
@[simp] theorem ok_h1 {Q : D → Sg → Prop} {h : M Hd} {f : Vw → M D} : Ok (h1 h f S) Q ↔ Ok (h S) fun x S1 => onO (vwH S1 x) fun v => Ok (f v S1) Q := by unfold h1; simp only [ok_bd, ok_seeI]
@[simp] theorem ok_h1C {Q : Cell → Sg → Prop} {h : M Hd} {f : Vw → M Cell} : Ok (h1C h f S) Q ↔ Ok (h S) fun x S1 => onO (vwH S1 x) fun v => Ok (f v S1) Q := by unfold h1C; simp only [ok_bd, ok_seeI]
@[simp] theorem ok_lenF {Q : D → Sg → Prop} {v : Vw} : Ok (lenF v S) Q ↔ Q (.int v.2.length) S := ok_ok
@[simp] theorem ok_listF {Q : Cell → Sg → Prop} {v : Vw} : Ok (listF v S) Q ↔ Q (.lst v.2) S := ok_ok
@[simp] theorem ok_frzC {Q : D → Sg → Prop} : Ok (frzC (.lst xs) S) Q ↔ Q (.lst xs) S := ok_ok
@[simp] theorem ok_boxC {Q : D → Sg → Prop} {c : Cell} : Ok (boxC c ⟨sl, g⟩) Q ↔ Q (.box g.nx) ⟨sl, g.add c⟩ := ok_ok
theorem ok_frzD {Q : D → Sg → Prop} (h : g.cs r = some (.lst xs)) : Ok (frzD (.box r) ⟨sl, g⟩) Q ↔ Q (.lst xs) ⟨sl, g.del r⟩ := by
  unfold frzD
  simp only [h]
  (first | exact ok_ok | exact ok_stuck | exact ok_exc | exact Iff.rfl)
@[simp] theorem ok_frzD_lst {Q : D → Sg → Prop} : Ok (frzD (.lst xs) S) Q ↔ Q (.lst xs) S := ok_ok
@[simp] theorem ok_lstM {Q : Cell → Sg → Prop} {ms : M (List D)} : Ok (lstM ms S) Q ↔ Ok (ms S) fun ds S1 => ds.length ≤ sizeLine ∧ Q (.lst ds) S1 := by unfold lstM; simp only [ok_bd, ok_guard]
@[simp] theorem ok_tupM {Q : D → Sg → Prop} {ms : M (List D)} : Ok (tupM ms S) Q ↔ Ok (ms S) fun ds S1 => ds.length ≤ sizeLine ∧ Q (.tup ds) S1 := by unfold tupM; simp only [ok_bd, ok_guard]
theorem ok_ixM {Q : D → Sg → Prop} {h : M Hd} {m : M D} : Ok (ixM h m S) Q ↔ Ok (h S) fun x S1 => Ok (m S1) fun i S2 => onO (vwH S2 x) fun v => Ok (ixP v i S2) Q := by unfold ixM; simp only [ok_bd, ok_seeI]
theorem ok_ixPI {Q : D → Sg → Prop} {v : Vw} {i : Int} : Ok (ixP v (.int i) S) Q ↔ onO (atI v.2 i) fun d => Q d S := by
  unfold ixP
  cases e : atI v.2 i with
  | none => simp only [e, ok_nope]; simp
  | some d => simp only [e, ok_ret]; simp
theorem ok_slM {Q : D → Sg → Prop} {h : M Hd} {l u : M (Option Int)} : Ok (slM h l u S) Q ↔ Ok (h S) fun x S1 => Ok (l S1) fun a S2 => Ok (u S2) fun b S3 => onO (vwH S3 x) fun v => (if v.1 = true then Q (.lst (cutD v.2 a b)) S3 else Q (.tup (cutD v.2 a b)) S3) := by
  unfold slM
  simp only [ok_bd, ok_seeI]
  have e : ∀ (v : Vw) a b (S3 : Sg), Ok ((if v.1 = true then ret (.lst (cutD v.2 a b)) else ret (.tup (cutD v.2 a b)) : M D) S3) Q ↔ (if v.1 = true then Q (.lst (cutD v.2 a b)) S3 else Q (.tup (cutD v.2 a b)) S3) := fun v a b S3 => by cases v.1 <;> (first | exact ok_ok | exact ok_stuck | exact ok_exc | exact Iff.rfl)
  simp only [e]
@[simp] theorem ok_oint {Q : Option Int → Sg → Prop} : Ok (oint (.int i) S) Q ↔ Q (some i) S := ok_ok
theorem ok_catC {Q : Cell → Sg → Prop} {a b : M Hd} : Ok (catC a b S) Q ↔ Ok (a S) fun x S1 => Ok (b S1) fun y S2 => onO (vwH S2 x) fun u => onO (vwH S2 y) fun v => (u.1 = true ∧ v.1 = true ∧ u.2.length + v.2.length ≤ sizeLine) ∧ Q (.lst (u.2 ++ v.2)) S2 := by
  unfold catC
  simp only [ok_bd, ok_seeI, ok_guard]
theorem ok_revC {Q : Cell → Sg → Prop} {h : M Hd} : Ok (revC h S) Q ↔ Ok (h S) fun x S1 => onO (vwH S1 x) fun v => v.1 = true ∧ Q (.lst v.2.reverse) S1 := by
  unfold revC
  simp only [ok_h1C, ok_guard]
/-! ### places -/
theorem ok_chk {Q : Unit → Sg → Prop} {p : Pl} : Ok (chkL p S) Q ↔ onL (getP p S) fun _ => Q () S := by
  unfold chkL
  cases e : getP p S with
  | none => simp [Ok, onL]
  | some x => cases x <;> simp [Ok, onL]
theorem ok_mutL {Q : D → Sg → Prop} {f : List D → List D → Option (D × List D)} {p : Pl} {as : List D} : Ok (mutL f p as S) Q ↔ onL (getP p S) fun xs => onO (f as xs) fun q => Q q.1 (putP p (.lst q.2) S) := by
  unfold mutL
  cases e : getP p S with
  | none => simp [Ok, onL]
  | some x =>
    cases x with
    | lst xs =>
      rw [onL_lst]
      simp only []
      cases e2 : f as xs with
      | none => simp only [e2]; simp
      | some q => simp only [e2]; simp
    | _ => simp [Ok, onL]
theorem ok_mutM {Q : D → Sg → Prop} {f : List D → List D → Option (D × List D)} {P : M Pl} {ms : M (List D)} : Ok (mutM f P ms S) Q ↔ Ok (P S) fun p S1 => onL (getP p S1) fun _ => Ok (ms S1) fun as S2 => onL (getP p S2) fun xs => onO (f as xs) fun q => Q q.1 (putP p (.lst q.2) S2) := by
  unfold mutM
  simp only [ok_bd, ok_chk, ok_mutL]
theorem ok_extM {Q : D → Sg → Prop} {P : M Pl} {h : M Hd} : Ok (extM P h S) Q ↔ Ok (P S) fun p S1 => onL (getP p S1) fun _ => Ok (h S1) fun y S2 => onO (vwH S2 y) fun v => onL (getP p S2) fun xs => (v.1 = true ∧ xs.length + v.2.length ≤ sizeLine) ∧ Q .non (putP p (.lst (xs ++ v.2)) S2) := by
  unfold extM
  simp only [ok_bd, ok_chk, ok_seeI]
  refine ok_congr fun p S1 => exists_congr fun _ => and_congr_right fun _ => ok_congr fun y S2 => exists_congr fun v => and_congr_right fun _ => ?_
  cases e : getP p S2 with
  | none => simp [Ok, onL]
  | some x =>
    cases x with
    | lst xs => by_cases z : v.1 = true ∧ xs.length + v.2.length ≤ sizeLine <;> simp [z, Ok]
    | _ => simp [Ok, onL]
@[simp] theorem getP_box : getP (.bx r) ⟨sl, g⟩ = g.cs r := rfl
@[simp] theorem putP_own {n : Nat} {c : Cell} : putP (.sl n) c ⟨sl, g⟩ = ⟨sl.set n (.own c), g⟩ := rfl
@[simp] theorem putP_box {c : Cell} : putP (.bx r) c ⟨sl, g⟩ = ⟨sl, g.put r c⟩ := rfl
@[simp] theorem ok_plE {Q : Pl → Sg → Prop} {m : M D} : Ok (plE m S) Q ↔ Ok (m S) fun d S1 => ∃ r, d = .box r ∧ Q (.bx r) S1 := by
  unfold plE
  rw [ok_bind]
  refine ok_congr fun d S1 => ?_
  cases d <;> simp [Ok]
theorem ok_putIx {Q : Fl → Sg → Prop} {p : Pl} {i d : D} : Ok (putIx p i d S) Q ↔ onO (getP p S) fun x => onO (setC x i d) fun y => Q .nx (putP p y S) := by
  unfold putIx
  cases e : getP p S with
  | none => simp [Ok]
  | some x =>
    cases e2 : setC x i d with
    | none => simp [Ok, e2]
    | some y => simp [Ok, e2]
@[simp] theorem ok_setIxM {Q : Fl → Sg → Prop} {mv mi : M D} {P : M Pl} : Ok (setIxM mv P mi S) Q ↔ Ok (mv S) fun d S1 => Ok (P S1) fun p S2 => Ok (mi S2) fun i S3 => onO (getP p S3) fun x => onO (setC x i d) fun y => Q .nx (putP p y S3) := by
  unfold setIxM
  simp only [ok_bd, ok_putIx]
/-! ### targets -/
@[simp] theorem asg_nm {n : Nat} : asg (.nm n) d ⟨sl, g⟩ = some ⟨sl.set n (.val d), g⟩ := by simp only [asg]; rfl
@[simp] theorem ok_asgM {Q : Fl → Sg → Prop} {T : Tg} {m : M D} : Ok (asgM T m S) Q ↔ Ok (m S) fun d S1 => onO (asg T d S1) fun S2 => Q .nx S2 := by
  unfold asgM
  rw [ok_bd]
  refine ok_congr fun d S1 => ?_
  cases asg T d S1 <;> simp [Ok]
@[simp] theorem ok_parM {Q : Fl → Sg → Prop} {is : List Nat} {ms : M (List Slot)} : Ok (parM is ms S) Q ↔ Ok (ms S) fun xs S1 => xs.length = is.length ∧ Q .nx (stAll is xs S1) := by
  unfold parM
  rw [ok_bd]
  have e : ∀ (xs : List Slot) (S1 : Sg), Ok (if xs.length = is.length then .ok .nx (stAll is xs S1) else .stuck) Q ↔ xs.length = is.length ∧ Q .nx (stAll is xs S1) := fun xs S1 => by
    by_cases z : xs.length = is.length <;> simp [z]
  simp only [e]
@[simp] theorem ok_pNil {Q : List Slot → Sg → Prop} : Ok (pNil S) Q ↔ Q [] S := ok_ok
@[simp] theorem ok_pVal {Q : List Slot → Sg → Prop} {m : M D} {ms : M (List Slot)} : Ok (pVal m ms S) Q ↔ Ok (m S) fun d S1 => Ok (ms S1) fun xs S2 => Q (.val d :: xs) S2 := by unfold pVal; simp only [ok_bd, ok_ret]
@[simp] theorem ok_pOwn {Q : List Slot → Sg → Prop} {m : M Cell} {ms : M (List Slot)} : Ok (pOwn m ms S) Q ↔ Ok (m S) fun d S1 => Ok (ms S1) fun xs S2 => Q (.own d :: xs) S2 := by unfold pOwn; simp only [ok_bd, ok_ret]
@[simp] theorem stAll_nil : stAll [] [] S = S := rfl
@[simp] theorem stAll_cons {n : Nat} {is : List Nat} {x : Slot} {xs : List Slot} : stAll (n :: is) (x :: xs) S = stAll is xs (S.st n x) := rfl
/-! ### sources -/
@[simp] theorem ok_itemsD {Q : Src → Sg → Prop} : Ok (itemsD d S) Q ↔ onO (vwD S d) fun v => Q ⟨v.2, fun S' => vwD S' d = some v⟩ S := by
  unfold itemsD
  cases e : vwD S d <;> simp [Ok]
@[simp] theorem ok_enumS {Q : Src → Sg → Prop} : Ok (enumS d S) Q ↔ onO (vwD S d) fun v => Q ⟨enFrom 0 v.2, fun S' => vwD S' d = some v⟩ S := by
  unfold enumS
  cases e : vwD S d <;> simp [Ok]
theorem ok_rng1 {Q : Src → Sg → Prop} : Ok (rng1 (.int j) S) Q ↔ (-(2 ^ 62) ≤ j ∧ j < 2 ^ 62) ∧ Q ⟨rngD 0 j.toNat, always⟩ S := ok_guard
/-! ### comprehensions -/
theorem ok_lcM {src : M Src} {T : Tg} {vs : List Nat} {t : M Bool} {e : M D} {Q : Cell → Sg → Prop}
    (hs : Ok (src S) fun s S1 => (noOwn S1.sl vs = true ∧ ∀ i ∈ T.ix, i ∈ vs) ∧ ∃ I : Nat → List D → Sg → Prop, (∀ i acc S, i ≤ s.ds.length → I i acc S → s.ok S) ∧ I 0 [] S1 ∧
      (∀ i d acc S, s.ds[i]? = some d → I i acc S → ∃ S2, asg T d (inner vs S) = some S2 ∧ Ok (t S2) fun b S3 => if b = true then Ok (e S3) fun y S4 => acc.length < sizeLine ∧ I (i + 1) (acc ++ [y]) (outer vs S S4) else I (i + 1) acc (outer vs S S3)) ∧
      ∀ acc S, I s.ds.length acc S → Q (.lst acc) S) : Ok (lcM src T vs t e S) Q := by
  unfold lcM
  rw [ok_bd]
  refine hs.imp fun s S1 ⟨hno, I, hok, h0, step, fin⟩ => ?_
  rw [if_pos hno, ok_bind]
  simp only [ok_ret]
  obtain ⟨ds, ok⟩ := s
  have go : ∀ (n i : Nat) (acc : List D) (S : Sg), ds.length - i = n → i ≤ ds.length → I i acc S → Ok (lcG T vs t e ok (ds.drop i) acc S) fun acc S => Q (.lst acc) S := by
    intro n
    induction n with
    | zero =>
      intro i acc S hn hi h
      have e : i = ds.length := by omega
      subst e
      rw [List.drop_length]
      simp only [lcG, if_pos (hok _ _ _ (Nat.le_refl _) h)]
      exact ok_ok.mpr (fin acc S h)
    | succ n ih =>
      intro i acc S hn hi h
      have hlt : i < ds.length := by omega
      rw [List.drop_eq_getElem_cons hlt]
      simp only [lcG, if_pos (hok _ _ _ hi h)]
      obtain ⟨S2, e1, h1⟩ := step i ds[i] acc S (List.getElem?_eq_getElem hlt) h
      simp only [e1]
      obtain ⟨b, S3, e2, h2⟩ := h1.get
      rw [e2]
      cases b with
      | false => exact ih (i + 1) acc _ (by omega) hlt h2
      | true =>
        obtain ⟨y, S4, e3, h3, h4⟩ := Ok.get (show Ok (e S3) _ from h2)
        simp only [e3, if_pos h3]
        exact ih (i + 1) _ _ (by omega) hlt h4
  exact go _ 0 [] S1 rfl (Nat.zero_le _) h0
/-- one name, nothing else of the frame is touched -/
theorem inner1 {n : Nat} : (inner [n] ⟨sl, g⟩).st n (.val d) = ⟨sl.set n (.val d), g⟩ := by
  show (⟨(sl.set n .emp).set n (.val d), g⟩ : Sg) = _
  rw [List.set_set]
theorem outer1 {n : Nat} {x : Slot} {g' : G} (h : n < sl.length) : outer [n] ⟨sl, g⟩ ⟨sl.set n x, g'⟩ = ⟨sl, g'⟩ := by
  show (⟨(sl.set n x).set n (sl.getD n .emp), g'⟩ : Sg) = _
  rw [List.set_set]
  congr 1
  refine List.ext_getElem? fun k => ?_
  by_cases e : k = n
  · subst e
    rw [List.getElem?_set_self h, List.getD_eq_getElem?_getD, List.getElem?_eq_getElem h]
    rfl
  · rw [List.getElem?_set_ne (Ne.symm e)]
theorem ok_lc1 {src : M Src} {n : Nat} {t : M Bool} {e : M D} {Q : Cell → Sg → Prop} (hn : n < sl.length) (hno : noOwn sl [n] = true)
    (hs : Ok (src ⟨sl, g⟩) fun s S1 => S1.sl = sl ∧ ∃ I : Nat → List D → G → Prop, (∀ i acc g, i ≤ s.ds.length → I i acc g → s.ok ⟨sl, g⟩) ∧ I 0 [] S1.g ∧
      (∀ i d acc g, s.ds[i]? = some d → I i acc g → Ok (t ⟨sl.set n (.val d), g⟩) fun b S3 => S3.sl = sl.set n (.val d) ∧ if b = true then Ok (e S3) fun y S4 => S4.sl = sl.set n (.val d) ∧ acc.length < sizeLine ∧ I (i + 1) (acc ++ [y]) S4.g else I (i + 1) acc S3.g) ∧
      ∀ acc g, I s.ds.length acc g → Q (.lst acc) ⟨sl, g⟩) : Ok (lcM src (.nm n) [n] t e ⟨sl, g⟩) Q := by
  refine ok_lcM (hs.imp fun s S1 ⟨h1, I, hok, h0, step, fin⟩ => ?_)
  obtain ⟨sl1, g1⟩ := S1
  have h1 : sl1 = sl := h1
  subst h1
  refine ⟨⟨hno, fun i hi => by simpa only [Tg.ix] using hi⟩, fun i acc S => S.sl = sl1 ∧ I i acc S.g, fun i acc S hi ⟨e1, h⟩ => by obtain ⟨s1, g1⟩ := S; cases e1; exact hok i acc g1 hi h, ⟨rfl, h0⟩, ?_, fun acc S ⟨e1, h⟩ => by obtain ⟨s1, g1⟩ := S; cases e1; exact fin acc g1 h⟩
  rintro i d acc ⟨s2, g2⟩ hd ⟨e1, h⟩
  have e1 : s2 = sl1 := e1
  subst e1
  refine ⟨⟨s2.set n (.val d), g2⟩, by simp only [asg]; exact congrArg some inner1, (step i d acc g2 hd h).imp fun b S3 ⟨e3, h3⟩ => ?_⟩
  obtain ⟨s3, g3⟩ := S3
  have e3 : s3 = s2.set n (.val d) := e3
  subst e3
  cases b with
  | false =>
    show (outer [n] ⟨s2, g2⟩ ⟨s2.set n (.val d), g3⟩).sl = s2 ∧ I (i + 1) acc (outer [n] ⟨s2, g2⟩ ⟨s2.set n (.val d), g3⟩).g
    rw [outer1 hn]
    exact ⟨rfl, h3⟩
  | true =>
    refine Ok.imp (show Ok (e _) _ from h3) fun y S4 ⟨e4, hl, h4⟩ => ⟨hl, ?_⟩
    obtain ⟨s4, g4⟩ := S4
    have e4 : s4 = s2.set n (.val d) := e4
    subst e4
    rw [outer1 hn]
    exact ⟨rfl, h4⟩
end
end Mm
end

section
/-! MmCg: == where the left one may be an instance with an own __eq__; runs that end in an exception. -/
namespace Mm
open PySem L2 PySem.Spec
open PyProof.Rows (envOfC Fr)
section
variable [TabCtx]
def isIns (S : Sg) (d : D) : Bool := match d with
  | .box r => match S.g.cs r with | some (.ins _ _) => true | _ => false
  | _ => false
def eqAny (fns cls : List Str) (C : Str) (f : F) (x y : D) : M D := fun S => if isIns S x = true then eqOwn fns cls C f x y S else eqM x y S
def eqAnyM (fns cls : List Str) (C : Str) (f : F) (ma mb : M D) : M D := bd ma fun x => bd mb fun y => eqAny fns cls C f x y
variable {X : Cx} {E : XK} {k j : Nat} {C : Str} {ps : List Str} {f : F} {cls fns : List Str} {a b : Expr} {ma mb : M D} {pos : Pos}
end
/-! ### runs that end in an exception -/
inductive Ex {α : Type} : R α → Str → List (Str × D) → (Sg → Prop) → Prop
  | mk {C : Str} {fs : List (Str × D)} {S : Sg} {X : Sg → Prop} (h : X S) : Ex (.exc C fs S) C fs X
section
variable {α β : Type} {C : Str} {fs : List (Str × D)} {X Y : Sg → Prop} {S : Sg}
theorem Ex.imp {r : R α} (h : Ex r C fs X) (k : ∀ S, X S → Y S) : Ex r C fs Y := by
  cases h with
  | mk h => exact .mk (k _ h)
theorem ex_bd {m : M α} {k : α → M β} (h : Ok (m S) fun a S1 => Ex (k a S1) C fs X) : Ex (bd m k S) C fs X := by
  obtain ⟨a, S1, e, h⟩ := h.get
  show Ex ((m S).bind k) C fs X
  rw [e]; exact h
theorem ex_bd0 {m : M α} {k : α → M β} (h : Ex (m S) C fs X) : Ex (bd m k S) C fs X := by
  show Ex ((m S).bind k) C fs X
  generalize m S = r at h
  cases h with
  | mk h => exact .mk h
theorem ex_seq {a b : M Fl} (h : Ok (a S) fun f S1 => f = .nx ∧ Ex (b S1) C fs X) : Ex (seqM a b S) C fs X := by
  unfold seqM
  refine ex_bd (h.imp ?_)
  rintro f S1 ⟨rfl, h⟩
  exact h
theorem ex_seq0 {a b : M Fl} (h : Ex (a S) C fs X) : Ex (seqM a b S) C fs X := ex_bd0 h
theorem ex_if {α : Type} {t : M Bool} {a b : M α} (h : Ok (t S) fun k S1 => Ex ((if k = true then a else b) S1) C fs X) : Ex (ifM t a b S) C fs X := ex_bd h
theorem ex_raise {ns : List Str} {ms : M (List D)} (h : Ok (ms S) fun ds S1 => (ns.zip ds).reverse = fs ∧ X S1) : Ex (raiseM C ns ms S) C fs X := by
  unfold raiseM
  refine ex_bd (h.imp ?_)
  rintro ds S1 ⟨rfl, h1⟩
  exact .mk h1
theorem ex_runF {n : Nat} {b : M Fl} {ds : List D} (h : Ex (b ⟨slots n ds, S.g⟩) C fs fun S1 => X ⟨[], S1.g⟩) : Ex (runF n b ds S) C fs X := by
  unfold runF
  generalize b ⟨slots n ds, S.g⟩ = r at h
  cases h with
  | mk h => exact .mk h
theorem ex_call {f : F} {ms : M (List D)} (h : Ok (ms S) fun ds S1 => Ex (f ds ⟨[], S1.g⟩) C fs fun S2 => X ⟨S1.sl, S2.g⟩) : Ex (callM f ms S) C fs X := by
  unfold callM
  refine ex_bd (h.imp ?_)
  intro ds S1 h
  unfold inF
  generalize f ds ⟨[], S1.g⟩ = r at h
  cases h with
  | mk h => exact .mk h
theorem ok_met {Bs : List Str} {l : List Kl} {told : Str} {val : Bool} {m : M D} {d : D} {Q : D → Sg → Prop} (h : Ex (m S) C fs X) (hB : C ∈ Bs) (hn : noOwns S.sl = true) (hd : hdl l C fs = some d) (q : ∀ S1, X S1 → Q d ⟨S.sl, S1.g⟩) : Ok (metM Bs l told val m S) Q := by
  unfold metM
  generalize m S = r at h
  cases h with
  | mk h =>
    simp only [hB, hn, and_self, if_true, hd]
    exact ⟨_, _, rfl, q _ h⟩
end
end Mm
end

section
/-! MmCj: sorted of a tuple of ints. -/
namespace Mm
open PySem L2 PySem.Spec PyProof.Rows SrtO
section
variable {prog : Program} {w : World} {A : Around} {E : Value → Shared → Prop} {s : Shared}
end
section
variable {X : Cx}
def rSortedTI (K : PySem.W.Frag) : List V → Hp → VK → Prop := fun vs H Q => ∃ (a : Addr) (ns : List Int), vs = [V.ref a] ∧ (SqL K H a (ns.map V.int) ∨ SqT K H a (ns.map V.int)) ∧
  ∀ (ns' : List Int) (p : Addr), ns'.Perm ns → ns'.Pairwise (· ≤ ·) → H p = none → Q (.ref p) (upd H p (.lst (ns'.map V.int)))
end
def sortTF : Vw → M Cell := fun v => match intsOf v.2 with | some ns => ret (.lst ((sortI ns).map D.int)) | none => nope
section
variable [TabCtx] {X : Cx} {E : XK} {p pos : Pos} {e : Expr} {h : M Mm.Hd}
end
end Mm
end

section
/-! MmCm: dict(xs) of a list of pairs whose keys are tuples. By an AI agent; no person has reviewed it. -/
namespace Mm
open PySem PySem.W PySem.Spec PyProof.Rows L2
def mergeT (kvs more : List (List Key × V)) : List (List Key × V) := more.foldl (fun acc kv => L2.putK acc kv.1 kv.2) kvs
/-- the pairs: each a tuple at p, its key a tuple at kb -/
structure PrT (K : PySem.W.Frag) (H : Hp) (t : Addr × Addr × List Key × V) : Prop where
  pr : SqT K H t.1 [.ref t.2.1, t.2.2.2]
  ky : H t.2.1 = some (.tup (t.2.2.1.map kV))
def rDictT (K : PySem.W.Frag) : List V → Hp → VK → Prop := fun xs H Q => ∃ (a : Addr) (ts : List (Addr × Addr × List Key × V)), xs = [.ref a] ∧ SqL K H a (ts.map fun t => V.ref t.1) ∧ (∀ t ∈ ts, PrT K H t) ∧
  ∀ p, H p = none → Q (.ref p) (upd H p (.dT (mergeT [] (ts.map fun t => (t.2.2.1, t.2.2.2)))))
section
variable [TabCtx]
def pairsT : List D → Option (List (List Key × D))
  | [] => some []
  | .tup [k, d] :: r => match keysD k, pairsT r with
    | some ks, some ps => some ((ks, d) :: ps)
    | _, _ => none
  | _ => none
def mergeD (kvs more : List (List Key × D)) : List (List Key × D) := more.foldl (fun acc p => putA acc p.1 p.2) kvs
def dictTF : Vw → M Cell := fun v => if v.1 = true then (match pairsT v.2 with | some ps => ret (.dT (mergeD [] ps)) | none => nope) else nope
section
variable {X : Cx} {E : XK} {e : Expr} {h : M Hd} {p pos : Pos} {n : Nat}
end
end
end Mm
end

section
/-! MmCt: dict(xs), xs pairs whose keys are ints or texts; {k: v}. -/
namespace Mm
open PySem L2
open PyProof.Rows (envOfC Fr)
variable [TabCtx]
def pairsK : List D → Option (List (Key × D))
  | [] => some []
  | .tup [k, d] :: r => match keyD k, pairsK r with
    | some q, some ps => some ((q, d) :: ps)
    | _, _ => none
  | _ => none
def mergeDK (kvs more : List (Key × D)) : List (Key × D) := more.foldl (fun acc p => putA acc p.1 p.2) kvs
def dictKF : Vw → M Cell := fun v => if v.1 = true then (match pairsK v.2 with | some ps => ret (.dK (mergeDK [] ps)) | none => nope) else nope
theorem tab_mergeK {c : Gm} {w : Wd} : ∀ {more : List (Key × D)} {rs : List (Key × V)} {kvs : List (Key × D)} {ys : List (Key × V)}, TabR c w more rs → TabR c w kvs ys → TabR c w (mergeDK kvs more) (mergeK ys rs)
  | [], rs, _, _, h, k => by
    have : rs = [] := by have := tab_len h; exact List.length_eq_zero_iff.mp (by simpa using this.symm)
    subst this
    exact k
  | p :: more, rs, kvs, ys, h, k => by
    cases rs with
    | nil => have := tab_len h; simp at this
    | cons q rs =>
      obtain ⟨h1, h2⟩ := h
      simp only [List.map_cons, List.cons.injEq] at h1
      obtain ⟨u, us, e, r1, r2⟩ := reps_cons.mp h2
      simp only [List.map_cons, List.cons.injEq] at e
      show TabR c w (mergeDK (putA kvs p.1 p.2) more) (mergeK (L2.putK ys q.1 q.2) rs)
      refine tab_mergeK ⟨h1.2, by rw [e.2]; exact r2⟩ ?_
      rw [h1.1]
      exact tab_put k (by rw [e.1]; exact r1)
section
variable {X : Cx} {E : XK} {e k v : Expr} {h : M Hd} {mk mv : M D} {p pos : Pos} {n : Nat}
def dispM (mk mv : M D) : M Cell := bd mk fun k => bd mv fun v => match keyD k with | some q => ret (.dK [(q, v)]) | none => nope
end
end Mm
end

section
/-! MmCu: f == f of a def. -/
namespace Mm
open PySem L2
open PyProof.Rows (envOfC Fr)
variable [TabCtx]
def sameFn (fns : List Str) : D → D → Bool
  | .glo x, .glo y => decide (x = y) && decide (x ∈ fns)
  | _, _ => false
def eqAnyF (fns cls : List Str) (C : Str) (f : F) (x y : D) : M D := fun S => if isIns S x = true then eqOwn fns cls C f x y S else if sameFn fns x y = true then .ok (.bl true) S else eqM x y S
def eqAnyFM (fns cls : List Str) (C : Str) (f : F) (ma mb : M D) : M D := bd ma fun x => bd mb fun y => eqAnyF fns cls C f x y
section
variable {X : Cx} {E : XK} {k j : Nat} {C : Str} {ps : List Str} {f : F} {cls fns : List Str} {a b : Expr} {ma mb : M D} {pos : Pos}
end
end Mm
end

section
/-! MmCv: list(d.items()) of a dict of one entry. -/
namespace Mm
open PySem L2 PySem.Spec
open PyProof.Rows (envOfC Fr)
variable [TabCtx]
def kyD : Key → D
  | .inl i => .int i
  | .inr x => .str x
def itemsE1 (P : Pl) : M Cell := fun S => match getP P S with | some (.dK []) => .ok (.lst []) S | some (.dK [(k, d)]) => .ok (.lst [.tup [kyD k, d]]) S | _ => .stuck
section
variable {X : Cx} {E : XK} {p apos cpos pos : Pos} {e : Expr} {mP : M Pl}
end
end Mm
end

section
/-! MmCw: a lambda of one parameter, handed to a def as its second thing. -/
namespace Mm
open PySem PySem.Spec PyProof.Rows L2 LamX
/-- one parameter, no name of its own else -/
structure LamP (sc scope : Scope) (q : Str) : Prop where
  kind : scope.kind = .function
  co : scope.isCoroutine = false
  gen : scope.isGenerator = false
  par : scope.names.lookup q = some .local
  own : ∀ y ∈ scope.names, y.2 ≠ .cell ∧ (y.2 = .local → y.1 = q)
  free : ∀ y ∈ scope.names, y.2 = .free → sc.names.lookup y.1 = some .cell ∨ sc.names.lookup y.1 = some .free
def lamPB (sc scope : Scope) (q : Str) : Bool :=
  decide (scope.kind = .function) && !scope.isCoroutine && !scope.isGenerator && decide (scope.names.lookup q = some .local) && scope.names.all fun y => !decide (y.2 = .cell) && (!decide (y.2 = .local) || decide (y.1 = q)) && (!decide (y.2 = .free) || decide (sc.names.lookup y.1 = some .cell) || decide (sc.names.lookup y.1 = some .free))
theorem lamP_by {sc scope : Scope} {q : Str} (h : lamPB sc scope q = true) : LamP sc scope q := by
  unfold lamPB at h
  simp only [Bool.and_eq_true, Bool.or_eq_true, Bool.not_eq_true', decide_eq_true_eq, decide_eq_false_iff_not, List.all_eq_true] at h
  obtain ⟨⟨⟨⟨h1, h2⟩, h3⟩, h5⟩, h4⟩ := h
  refine ⟨h1, h2, h3, h5, fun y hy => ⟨(h4 y hy).1.1, fun e => ?_⟩, fun y hy e => ?_⟩
  · rcases (h4 y hy).1.2 with z | z
    · exact absurd e z
    · exact z
  · rcases (h4 y hy).2 with (z | z) | z
    · exact absurd e z
    · exact .inl z
    · exact .inr z
theorem LamP.has {X : Cx} {scope : Scope} {q : Str} (L : LamP X.env.scope scope q) (ok : X.Ok) : ∀ y ∈ scope.names, y.2 = .free → ∃ c, X.env.cells.lookup y.1 = some c := fun y hy e => by
  rcases L.free y hy e with k | k
  · exact ok.has _ (.inl k)
  · exact ok.has _ (.inr k)
section
variable {X : Cx} {pins : List (Addr × Obj)} {σ : L2.St} {H HZ : Hp} {s s1 : Shared}
theorem lam_start1 {A : Around} {outer : List Env} {E : XK} {scope : Scope} {f c' : Addr} {h₁ : Heap} {tk j : Nat} {q : Str} {u : Value} {v : V} (I : Inv X pins σ H s) (L : LamP X.env.scope scope q) (e0 : Env0 X.prog X.w X.K X.mg X.base A outer s1 HZ) (hd : A.handled = none)
    (un : Un (frs X.stack) [] H HZ s.heap s1.heap) (hns : h₁.Ns s1.heap.objs.size fun y => ([(q, u)] : List (Str × Value)).reverse.lookup y) (kp : ∀ b o, s1.heap.get? b = some o → h₁.get? b = some o) (ru : L2.RelV v u) (hj : X.N[j]? = some q) (hnd : ∀ i, X.N[i]? = some q → i = j) :
    Inv (lamCx X A outer s1 HZ E scope f c') [] (σ.set j (some v)) HZ { s1 with heap := h₁, toks := tk } := by
  have hfree := L.has I.ok
  have cm : ∀ {y c}, (cloFrom X.env.cells scope.names []).lookup y = some c → X.env.cells.lookup y = some c := fun {y c} e => by
    rcases cloFrom_mem (PySem.mem_of_lookup e) with hm | ⟨h1, h2⟩
    · cases hm
    · obtain ⟨c1, hc⟩ := hfree _ h1 rfl
      have hc : X.env.cells.lookup y = some c1 := hc
      have e2 : c = c1 := by
        rw [h2, hc] <;> rfl
      rw [e2]
      exact hc
  have look : ∀ {y}, scope.names.lookup y = some .free → ∃ c, (cloFrom X.env.cells scope.names []).lookup y = some c := fun {y} hl => by
    have hy : (y, NameKind.free) ∈ scope.names := PySem.mem_of_lookup hl
    exact mem_lookup (cloFrom_has (cells := X.env.cells) (acc := []) hy)
  have cellK : ∀ {c : Addr} {v : Option Value}, H c = none → s.heap.IsCell c v → h₁.IsCell c v := fun {c v} n ⟨o, ho, hd⟩ => by
    obtain ⟨sl, q⟩ := un.any ho n (by simp)
    exact ⟨_, kp _ _ q, hd⟩
  have noA : ∀ b : Addr, b ∉ (lamCx X A outer s1 HZ E scope f c').ex := fun b z => absurd (show b ∈ ([] : List Addr) from z) (by simp)
  refine ⟨⟨e0.mod, L.kind, rfl, rfl, Nat.le_refl _, fun y z c e1 e2 => I.ok.inj y z c (cm e1) (cm e2), fun y hy => ?_, fun y c z _ => ?_, fun _ => hd, Around.frames_deeper e0.frames, .inr ⟨rfl, rfl⟩, fun b z => absurd z (noA b), e0.bs, e0.bsz, fun b _ _ => noA b,
      fun b z => absurd z (noA b), e0.funs, e0.frf⟩,
    rfl, e0.bare, Un.kept kp, ⟨_, hns, fun i y v' e1 e2 e3 => ?_⟩, fun y c e => ?_, e0.hok.fresh (Nat.le_refl _), fun y c e => ?_, fun q hq => absurd (show q ∈ ([] : List (Addr × Obj)) ++ [] from hq) (by simp), e0.hok.kept kp, by rw [List.length_set]; exact I.len⟩
  · have hy : scope.names.lookup y = some .cell ∨ scope.names.lookup y = some .free := hy
    rcases hy with hy | hy
    · exact absurd rfl (L.own _ (PySem.mem_of_lookup hy)).1
    · exact look hy
  · have z : false = true := z
    cases z
  · have e3 : Vis scope y := e3
    have e1 : X.N[i]? = some y := e1
    by_cases hij : i = j
    · subst hij
      have hlt : i < σ.length := by
        have h1 := (List.getElem?_eq_some_iff.mp e1).1
        have h2 := I.len
        omega
      rw [List.getElem?_set_self hlt] at e2
      have ev : v = v' := by simpa using e2
      subst ev
      have hy : y = q := Option.some.inj (e1.symm.trans hj)
      subst hy
      exact ⟨u, ru, .inl ⟨L.par, by simp⟩⟩
    · rw [List.getElem?_set_ne (Ne.symm hij)] at e2
      have hy : y ≠ q := fun z => by subst z; exact hij (hnd i e1)
      rcases e3 with k | k | k
      · exact absurd ((L.own _ (PySem.mem_of_lookup k)).2 rfl) hy
      · exact absurd rfl (L.own _ (PySem.mem_of_lookup k)).1
      · obtain ⟨m, hn, hl⟩ := I.loc
        have hvis : Vis X.env.scope y := (L.free _ (PySem.mem_of_lookup k) rfl).elim (fun k => .inr (.inl k)) (fun k => .inr (.inr k))
        obtain ⟨w', r, q⟩ := hl i y v' e1 e2 hvis
        obtain ⟨c2, h2⟩ := look k
        refine ⟨w', r, .inr ⟨.inr k, c2, h2, ?_⟩⟩
        have c1 := cm h2
        rcases q with ⟨k', _⟩ | ⟨_, c3, e', z⟩
        · have k' : X.env.scope.names.lookup y = some .local := k'
          rcases L.free _ (PySem.mem_of_lookup k) rfl with k2 | k2 <;> rw [show X.env.scope.names.lookup y = _ from k2] at k' <;> cases k'
        · rw [c1] at e'
          cases e'
          exact cellK (I.freeC y _ c1) z
  · obtain ⟨w', z⟩ := I.cell y c (cm e)
    exact ⟨w', cellK (I.freeC y c (cm e)) z⟩
  · obtain ⟨v, o, ho, hd⟩ := I.cell y c (cm e)
    exact un.free c o ho (I.freeC y c (cm e)) (by simp)
/-- x(e), in the def that got the lambda -/
theorem pe_act1 {CXg : CXT} {Eg : XK} {Ng : List Str} {qg : Str} {sg : Scope} {g f c' : Addr} {cdg pm ctv : Value} {params : Arguments} {body : Expr} {scope : Scope} {k i j : Nat} {a q : Str} {W : WX} {E : XK} {tb : TE} {ta : TE} {ea : Expr} {p1 p2 : Pos}
    (I : Inv X pins σ H s) (L : LamP X.env.scope scope q) (hf : s.heap.get? f = some (PySem.W.kla_obj "<lambda>" (X.env.qual ++ "<lambda>") params body scope (cloFrom X.env.cells scope.names []) pm c' ctv)) (hfn : H f = none) (hfr : f ∉ frs X.stack)
    (hbind : ∀ u : Value, bindArgs (PySem.W.kla_fn "<lambda>" (X.env.qual ++ "<lambda>") params body scope (cloFrom X.env.cells scope.names []) pm (.ref c') ctv) ⟨[u], []⟩ = pure [(q, u)])
    (tk : Takes (cxOf CXg X.prog X.w X.K X.mg X.base Ng qg sg g cdg X.A X.stack s H Eg) W) (hW : ∀ cls d σ' H', E cls d H' → W cls d σ' H') (hr : Room (k + 1) (X.A.deeper (envOfC qg sg s.heap.objs.size g cdg)))
    (hbody : ∀ (A : Around) (outer : List Env) (s : Shared) (H : Hp), Room k (A.deeper (lamEnv X scope s.heap.objs.size f c')) → PE (lamCx X A outer s H E scope f c') body tb)
    (hN : Ng[i]? = some a) (hv : Vis sg a) (hj : X.N[j]? = some q) (hnd : ∀ i, X.N[i]? = some q → i = j) (he : PE (cxOf CXg X.prog X.w X.K X.mg X.base Ng qg sg g cdg X.A X.stack s H Eg) ea ta)
    (hd : (a == ("__debug__" : Str)) = false := by decide) (hcd : (a == ("__classdict__" : Str)) = false := by decide)
    (hs : starEach [ea] (cxOf CXg X.prog X.w X.K X.mg X.base Ng qg sg g cdg X.A X.stack s H Eg).env = [(false, eval ea (cxOf CXg X.prog X.w X.K X.mg X.base Ng qg sg g cdg X.A X.stack s H Eg).env)] := by rfl) :
    PE (cxOf CXg X.prog X.w X.K X.mg X.base Ng qg sg g cdg X.A X.stack s H Eg) (.Call (.Name a p1) [ea] [] p2)
      (fun σZ HZ Q => σZ[i]? = some (some (.ref f)) ∧ ta σZ HZ fun v H1 => H1 c' = some (CodeO c' (X.env.qual ++ "<lambda>")) ∧ tb (σ.set j (some v)) H1 Q) := by
  refine ⟨fun pinsZ sZ σZ HZ Q IZ h => ?_⟩
  obtain ⟨hs1, ht⟩ := h
  refine wpAny_Call_Name_kw (thn ((pe_var (pos := p1) (i := i) hN hv hd hcd).run pinsZ sZ σZ HZ (fun v H1 => v = .ref f ∧ H1 = HZ) IZ ⟨.ref f, hs1, rfl, rfl⟩) fun u s1 ⟨v, H1, I1, r1, q1⟩ => ?_)
  obtain ⟨ev, eH⟩ := q1
  subst ev
  rw [eH] at I1
  obtain rfl : u = Value.ref f := r1
  have at_ : ∀ {H2 : Hp} {s2 : Shared}, Inv (cxOf CXg X.prog X.w X.K X.mg X.base Ng qg sg g cdg X.A X.stack s H Eg) pinsZ σZ H2 s2 → s2.heap.get? f = some (PySem.W.kla_obj "<lambda>" (X.env.qual ++ "<lambda>") params body scope (cloFrom X.env.cells scope.names []) pm c' ctv) := fun I2 => I2.base.keep f _ hf hfn hfr (fun z => nomatch (show f ∈ ([] : List Addr) from z))
  refine PySem.W.callWith_F ⟨_, _, _, _, at_ I1⟩ ?_ hs rfl
  rw [hs]
  refine Calls.spliced_cons (thn (he.run pinsZ s1 σZ HZ _ I1 ht) fun w s2 ⟨v, H2, I2, rv, hc, hq⟩ => ?_)
  refine Calls.spliced_nil ⟨⟨_, _, _, _, at_ I2⟩, ?_⟩
  have of1 := at_ I2
  have un : Un (frs X.stack) [] H H2 s.heap s2.heap := I2.base
  obtain ⟨⟨oc, vs, t, hoc, hdc, hvc⟩, _, _⟩ := I2.hok c' _ hc
  have rc : codeAny (model X.prog X.w) (X.A.deeper (envOfC qg sg s.heap.objs.size g cdg)) (.call (.ref f) ⟨[w], []⟩) (CR (L2.CX X.prog X.w) (envOfC qg sg s.heap.objs.size g cdg :: X.stack) X.prog X.w H2 s2 Q E) s2 := by
    refine PySem.W.kla_callFunE hr.depth of1 rfl L.co L.gen rfl ⟨c', oc, vs, t, rfl, hoc, hdc, hvc⟩ ?_
    rw [hbind]
    refine wpAny_pure (wpAny_newFunctionEnv (fun y hy => (L.own y hy).1) (fun y hy => by rw [List.mem_singleton.mp hy]; exact L.par) (fun h₁ hns hsb => ⟨I2.nolimit.fresh _ hsb, ?_⟩) L.kind)
    show codeAny _ _ (.expr body (lamEnv X scope s2.heap.objs.size f c')) _ _
    have kp : ∀ b o, s2.heap.get? b = some o → h₁.get? b = some o := fun b o e => hsb.extBut b o (Nat.ne_of_lt (Heap.lt_size e)) (Heap.get?_push_of_some _ e)
    have J : Inv (lamCx X (X.A.deeper (envOfC qg sg s.heap.objs.size g cdg)) (envOfC qg sg s.heap.objs.size g cdg :: X.stack) s2 H2 E scope f c') [] (σ.set j (some v)) H2 { s2 with heap := h₁, toks := s2.toks + ([(q, w)] : List (Str × Value)).length } :=
      lam_start1 I L I2.env0 hr.hd un hns kp rv hj hnd
    refine PySem.W.kla_codeExpr (wpAny_mono ((hbody _ _ s2 H2 (hr.deeper _)).run [] _ _ H2 Q J hq) (fun v s' hq => ?_) fun e s' hq => hq)
    obtain ⟨w', H', J', rv, q⟩ := hq
    exact ⟨w', H', J'.os, J'.bare, J'.base, J'.hok, rv, q⟩
  have hx : Passes (L2.CX X.prog X.w) (cxOf CXg X.prog X.w X.K X.mg X.base Ng qg sg g cdg X.A X.stack s H Eg) E := passes_call tk hW
  refine wpAny_call (codeAny_mono rc fun r s' hq => ?_)
  cases r with
  | error e => exact hx pinsZ σZ H2 s2 e s' I2 hq
  | ok fl =>
    cases fl with
    | ret u => exact I2.after hq
    | next => exact False.elim hq
    | brk => exact False.elim hq
    | cont => exact False.elim hq
end
/-- the def that calls its second thing: what it makes of it, act -/
def Gives2 (X : Cx) (k : Nat) (Ng : List Str) (x : Str) (sg : Scope) (g : Addr) (cdg : Value) (bg : List Stmt) (a : Str) (E : XK) (TT : V → (V → Hp → VK → Prop) → Hp → VK → Prop) : Prop :=
  ∀ (f : Addr) (s : Shared) (H : Hp) (v : V) (Q : VK) (act : V → Hp → VK → Prop), (∀ v H Q Q', act v H Q → (∀ r H, Q r H → Q' r H) → act v H Q') → Room (k + 1) (X.A.deeper (envOfC x sg s.heap.objs.size g cdg)) →
    (∀ (ea : Expr) (ta : TE) (p1 p2 : Pos), PE (cxOf (L2.CX X.prog X.w) X.prog X.w X.K X.mg X.base Ng x sg g cdg X.A X.stack s H E) ea ta →
      starEach [ea] (cxOf (L2.CX X.prog X.w) X.prog X.w X.K X.mg X.base Ng x sg g cdg X.A X.stack s H E).env = [(false, eval ea (cxOf (L2.CX X.prog X.w) X.prog X.w X.K X.mg X.base Ng x sg g cdg X.A X.stack s H E).env)] →
      PE (cxOf (L2.CX X.prog X.w) X.prog X.w X.K X.mg X.base Ng x sg g cdg X.A X.stack s H E) (.Call (.Name a p1) [ea] [] p2) (fun σZ HZ Q => σZ[1]? = some (some (.ref f)) ∧ ta σZ HZ fun u H1 => act u H1 Q)) →
    TT v act H Q → ∃ t, PSs (cxOf (L2.CX X.prog X.w) X.prog X.w X.K X.mg X.base Ng x sg g cdg X.A X.stack s H E) bg t ∧ t { nx := fun _ H' => Q .non H', rt := Q } (L2.start Ng [v, .ref f]) H
def tLam2 (T : List (Addr × Str)) (ql : Str) (j : Nat) (te : TE) (TT : V → (V → Hp → VK → Prop) → Hp → VK → Prop) (t : TE) : TE := fun σ H Q => te σ H fun v H0 => Tabs T H0 ∧ ∀ (H1 : Hp) (c' : Addr), ExtN H0 H1 → Tabs T H1 → H1 c' = some (CodeO c' ql) →
  TT v (fun u H' Q' => H' c' = some (CodeO c' ql) ∧ t (σ.set j (some u)) H' Q') H1 Q
section
variable {X : Cx}
/-- x(e, lambda q: body) -/
theorem pe_lam2 {T : List (Addr × Str)} {TT : V → (V → Hp → VK → Prop) → Hp → VK → Prop} {x a b0 q : Str} {g c P : Addr} {k j : Nat} {pg : Arguments} {bg : List Stmt} {sg : Scope} {dV kV doc pm cdv ct oc : Value} {an od : Option Addr} {osl : Array (Option Value)} {Ng : List Str} {E : XK}
    {params : Arguments} {body e : Expr} {scope : Scope} {te t : TE} {p lpos pos : Pos} (hg : Gl X x) (hm : X.mg x = some (.ref g)) (hk : PySem.W.keepIn X.K (.ref g) = true)
    (lk : X.K.lookup g = some ⟨oc, od, .func (PySem.W.fnOf x x pg bg sg dV kV doc pm an cdv ct), osl⟩) (hcg : PySem.W.codeIn X.K cdv x = true) (hb : L2.Binds X.K (PySem.W.fnOf x x pg bg sg dV kV doc pm an cdv ct) [b0, a] []) (Sg : FnScope Ng [b0, a] sg) (hNg : Ng[1]? = some a) (hva : Vis sg a)
    (hG : Gives2 X k Ng x sg g cdv bg a E TT) (hx : Passes (L2.CX X.prog X.w) X E)
    (TB : TabB X.base X.mg c P) (hcode : X.env.code = .ref c) (hmT : (P, X.env.qual ++ "<lambda>") ∈ T) (hu : ∀ p ∈ T, p.1 = P → p.2 = X.env.qual ++ "<lambda>") (hr : Room (k + 2) X.A) (L : LamP X.env.scope scope q) (hdef : defaultsOf params X.env = ([], []))
    (hbind : ∀ (qq : Str) (cl : List (Str × Addr)) (pm cv ctv u : Value), bindArgs (PySem.W.kla_fn "<lambda>" qq params body scope cl pm cv ctv) ⟨[u], []⟩ = pure [(q, u)])
    (hj : X.N[j]? = some q) (hnd : ∀ i, X.N[i]? = some q → i = j) (he : PE X e te)
    (hbody : ∀ (A : Around) (outer : List Env) (s : Shared) (H : Hp) (f c' : Addr), Room k (A.deeper (lamEnv X scope s.heap.objs.size f c')) → PE (lamCx X A outer s H E scope f c') body t)
    (htm : ∀ σ H Q Q', t σ H Q → (∀ v H, Q v H → Q' v H) → t σ H Q')
    (hdb : (x == ("__debug__" : Str)) = false := by decide) (hd : (a == ("__debug__" : Str)) = false := by decide) (hcd : (a == ("__classdict__" : Str)) = false := by decide)
    (hs : starEach [e, .Lambda params body scope lpos] X.env = (false, eval e X.env) :: starEach [.Lambda params body scope lpos] X.env := by rfl) :
    PE X (.Call (.Name x p) [e, .Lambda params body scope lpos] [] pos) (tLam2 T (X.env.qual ++ "<lambda>") j te TT t) := by
  refine ⟨fun pins s σ H Q I h => ?_⟩
  refine wpAny_Call_Name_kw (ld_glob I hg hm ?_ hdb)
  refine PySem.W.callWith_K (h₀ := X.base) I.ok.mod.kin hk ?_ hs (by rfl)
  rw [hs]
  show wpAny _ _ (spliced ((false, eval e X.env) :: (false, eval (.Lambda params body scope lpos) X.env) :: backTo pos (starEach [] X.env))) _ _ s
  refine Calls.spliced_cons (thn (he.run pins s σ H _ I h) fun w s0 ⟨v, H0, I0, rv, hT, hq⟩ => ?_)
  refine Calls.spliced_cons (lam_make2 I0 TB hcode hmT hu hT hdef (L.has I0.ok) fun f c' pm' ctv H1 s' I1 eN T1 hf hfn hfr hco => ?_)
  refine Calls.spliced_nil ⟨I1.kIn, ?_⟩
  have rc : codeAny (model X.prog X.w) X.A (.call (.ref g) ⟨[w, .ref f], []⟩) (CR (L2.CX X.prog X.w) X.stack X.prog X.w H1 s' Q E) s' := by
    refine run_ofS (N := Ng) (ps := [b0, a]) (us := [w, .ref f]) (vs := [v, .ref f]) lk hcg Sg hr I1.env0 (hb s' [w, .ref f] I1.kIn rfl) (.cons rv (.cons rfl .nil)) rfl fun hr' => ?_
    obtain ⟨t', ht', hq'⟩ := hG f s' H1 v Q (fun u H' Q' => H' c' = some (CodeO c' (X.env.qual ++ "<lambda>")) ∧ t (σ.set j (some u)) H' Q') (fun v H Q Q' h k => ⟨h.1, htm _ _ _ _ h.2 k⟩) hr' (fun ea ta p1 p2 hea hsa => pe_act1 (i := 1) I1 L hf hfn hfr (hbind _ _ _ _ _) (takes_of rfl rfl rfl rfl) (fun _ _ _ _ h => h) hr' (fun A outer s H hr2 => hbody A outer s H f c' hr2) hNg hva hj hnd hea hd hcd hsa) (hq H1 c' eN T1 hco)
    exact ⟨t', ht', hq'⟩
  refine wpAny_call (codeAny_mono rc fun r s2 hq => ?_)
  cases r with
  | error e => exact hx pins σ H1 s' e s2 I1 hq
  | ok fl =>
    cases fl with
    | ret u => exact I1.after hq
    | next => exact False.elim hq
    | brk => exact False.elim hq
    | cont => exact False.elim hq
end
end Mm
end

section
/-! MmCx: the def that looks for the first thing of a list that its second thing refuses. -/
namespace Mm
open PySem PySem.Spec L2 LamX
open PyProof.Rows (envOfC Fr)
def SqE (K : PySem.W.Frag) (b : Bool) (H : Hp) (a : Addr) (xs : List V) : Prop := if b = true then SqL K H a xs else SqT K H a xs
/-- the things from the i-th on, asked one by one -/
def FbEach (K : PySem.W.Frag) (b : Bool) (a : Addr) (act : V → Hp → VK → Prop) (Q : VK) : Nat → Nat → Hp → Prop
  | 0, i, H => ∃ all, SqE K b H a all ∧ all.length ≤ i ∧ Q .non H
  | n + 1, i, H => ∃ all x, SqE K b H a all ∧ all[i]? = some x ∧ ∀ T, H T = none → act x (upd H T (.tup [.int (i : Nat), x])) fun r H1 => ∃ c, r = .bl c ∧ (c = true → FbEach K b a act Q n (i + 1) H1) ∧ (c = false → Q (.int (i : Nat)) H1)
/-- what it makes of a thing and of act -/
def FbT (K : PySem.W.Frag) (sp : Sp) (E : XK) : V → (V → Hp → VK → Prop) → Hp → VK → Prop := fun v act H Q =>
  sp [v] H (fun r H1 => ∃ c, r = .bl c ∧ (c = false → Q (.int 0) H1) ∧ (c = true → ∃ b a n, v = .ref a ∧ FbEach K b a act Q n 0 H1)) E
abbrev fbZ (X : Cx) (N : List Str) (sg : Scope) (g : Addr) (cdg : Value) (s : Shared) (H : Hp) (E : XK) : Cx := cxOf (L2.CX X.prog X.w) X.prog X.w X.K X.mg X.base N "first_bad" sg g cdg X.A X.stack s H E
section
variable {X : Cx} {k k0 j0 j1 : Nat} {x t a ix th : Str} {sg : Scope} {g fl : Addr} {cdg : Value} {E : XK} {fd : FuncData} {sp : Sp} {nm : Str}
  {p0 p1 p2 p3 p4 p5 p6 p7 p8 p9 p10 p11 p12 p13 p14 p15 p16 p17 p18 p19 p20 p21 p22 : Pos} {kk jj jk : Nat}
theorem gives_fb (F : FnOk X.prog X.w X.K X.mg X.base (L2.CX X.prog X.w) k0 fl fd [t] sp) (hk0 : k0 ≤ k + 1) (hml : X.mg nm = some (.ref fl)) (hkl : PySem.W.keepIn X.K (.ref fl) = true) (hbl : Binds X.K fd [t] [])
    (hmono : ∀ vs H Q Q' E, sp vs H Q E → (∀ v H, Q v H → Q' v H) → sp vs H Q' E) (hN : ([x, a, ix, th] : List Str).Nodup) (hgl : sg.names.lookup nm = some .globalImplicit) (hge : sg.names.lookup ("enumerate" : Str) = some .globalImplicit) (hme : X.mg "enumerate" = none)
    (v0 : Vis sg x) (v2 : Vis sg ix) (v3 : Vis sg th) (l2 : sg.names.lookup ix = some .local) (l3 : sg.names.lookup th = some .local)
    (d0 : (x == ("__debug__" : Str)) = false) (c0 : (x == ("__classdict__" : Str)) = false) (d2 : (ix == ("__debug__" : Str)) = false) (c2 : (ix == ("__classdict__" : Str)) = false) (d3 : (th == ("__debug__" : Str)) = false) (c3 : (th == ("__classdict__" : Str)) = false) (dl : (nm == ("__debug__" : Str)) = false) :
    Gives2 X k [x, a, ix, th] "first_bad" sg g cdg
      [.If (.UnaryOp .Not (.Call (.Name nm p0) [.Name x p1] [] p2) p3) [.Return (some (.Constant (.int 0) j0 p4)) p5] [] p6,
       .For (.Tuple [.Name ix p7, .Name th p8] kk p9) (.Call (.Name "enumerate" p10) [.Name x p11] [] p12) [.If (.UnaryOp .Not (.Call (.Name a p13) [.Name th p14] [] p15) p16) [.Return (some (.Name ix p17)) p18] [] p19] [] p20,
       .Return (some (.Constant .none j1 p21)) p22] a E (FbT X.K sp E) := by
  intro f s H v Q act hma hr hact hq
  have gl : Gl (fbZ X [x, a, ix, th] sg g cdg s H E) nm := hgl
  have ge : Gl (fbZ X [x, a, ix, th] sg g cdg s H E) "enumerate" := hge
  have pv0 : ∀ p, PE (fbZ X [x, a, ix, th] sg g cdg s H E) (.Name x p) (tVar 0) := fun p => pe_var rfl v0 d0 c0
  have pv2 : ∀ p, PE (fbZ X [x, a, ix, th] sg g cdg s H E) (.Name ix p) (tVar 2) := fun p => pe_var rfl v2 d2 c2
  have pv3 : ∀ p, PE (fbZ X [x, a, ix, th] sg g cdg s H E) (.Name th p) (tVar 3) := fun p => pe_var rfl v3 d3 c3
  have s1 := ps_if (pos := p6) (pt_not (pos := p3) (pt_val (pe_call (X := fbZ X [x, a, ix, th] sg g cdg s H E) (E := E) (p := p0) (pos := p2) F (hr.mono hk0) gl hml hkl hbl .nil passD (pa_cons (pv0 p1) pa_nil rfl) dl rfl rfl))) (pss_one (ps_ret (pos := p5) (pe_int (i := 0) (j := j0) (pos := p4)))) pss_nil
  have sb := ps_if (pos := p19) (pt_not (pos := p16) (pt_val (hact (.Name th p14) _ p13 p15 (pv3 p14) rfl))) (pss_one (ps_ret (pos := p18) (pv2 p17))) pss_nil
  have s2 := ps_for (pos := p20) ownsD rfl (pi_enumA (p := p10) (pos := p12) (tpos := p9) (kk := kk) (elts := [.Name ix p7, .Name th p8]) ge hme (pa_cons (pv0 p11) pa_nil rfl) rfl) (pg_tup (pos := p9) (k := kk) rfl (pgs_cons (pg_name (pos := p7) (i := 2) hN rfl (.inl l2)) (pgs_cons (pg_name (pos := p8) (i := 3) hN rfl (.inl l3)) pgs_nil))) (pss_one sb)
  have s3 := ps_ret (pos := p22) (pe_non (X := fbZ X [x, a, ix, th] sg g cdg s H E) (j := j1) (pos := p21))
  refine ⟨_, pss_cons s1 (pss_cons s2 (pss_one s3)), ?_⟩
  have e0 : L2.start [x, a, ix, th] [v, V.ref f] = [some v, some (.ref f), none, none] := rfl
  rw [e0]
  unfold FbT at hq
  unfold tSeq tIfS tNot tB tCall
  refine ⟨v, rfl, hmono _ _ _ _ _ hq fun r H1 h1 => ?_⟩
  obtain ⟨c, rfl, h2, h3⟩ := h1
  refine ⟨c, rfl, ?_⟩
  cases c with
  | false => exact h2 rfl
  | true =>
    obtain ⟨b, ad, n0, rfl, hE⟩ := h3 rfl
    have main : ∀ J : It, (∀ i H all, SqE X.K b H ad all → (all.length ≤ i → J.stop i H) ∧ (∀ x, all[i]? = some x → J.go i H ∧ ∀ u H', J.yld i H u H' → ∃ T, u = .ref T ∧ H T = none ∧ H' = upd H T (.tup [.int (i : Nat), x]))) →
        ∃ W : Nat → Nat → L2.St → Hp → Prop, (∃ m, W 0 m [some (.ref ad), some (.ref f), none, none] H1) ∧ ∀ i m σ H, W i m σ H →
          (J.stop i H ∧ Q .non H) ∨ (J.go i H ∧ ∃ N : L2.St → Hp → Prop, (∀ σ' H', N σ' H' → ∃ m', m' < m ∧ W (i + 1) m' σ' H') ∧ ∀ x H', J.yld i H x H' → gTup X.K 2 (gCons (gName 2) (gCons (gName 3) gNil)) x σ H' fun σ2 H2 => σ2[1]? = some (some (.ref f)) ∧ tVar 3 σ2 H2 fun u H3 => act u H3 fun r H4 => ∃ c, r = .bl c ∧ (if (!c) = true then tRet (tVar 2) { nx := N, ct := N, bk := fun _ H => Q .non H, rt := Q } σ2 H4 else N σ2 H4)) := by
      intro J hJ
      refine ⟨fun i m σ H => (∃ y z, σ = [some (.ref ad), some (.ref f), y, z]) ∧ FbEach X.K b ad act Q m i H, ⟨n0, ⟨_, _, rfl⟩, hE⟩, ?_⟩
      rintro i m σ H ⟨⟨y, z, rfl⟩, hF⟩
      cases m with
      | zero =>
        obtain ⟨all, h1, h2, h3⟩ := hF
        exact .inl ⟨(hJ i H all h1).1 h2, h3⟩
      | succ m =>
        obtain ⟨all, x, h1, h2, hF⟩ := hF
        obtain ⟨go, yl⟩ := (hJ i H all h1).2 x h2
        refine .inr ⟨go, fun σ' H' => (∃ y z, σ' = [some (.ref ad), some (.ref f), y, z]) ∧ FbEach X.K b ad act Q m (i + 1) H', ?_, ?_⟩
        · rintro σ' H' ⟨h1, h2⟩
          exact ⟨m, by omega, h1, h2⟩
        · intro u H' hu
          obtain ⟨T, rfl, hT, rfl⟩ := yl u H' hu
          refine ⟨T, _, rfl, .inl (.inl upd_same), rfl, ?_⟩
          refine ⟨_, _, rfl, _, _, rfl, rfl, rfl, _, rfl, hma _ _ _ _ (hF T hT) fun r H4 hr4 => ?_⟩
          obtain ⟨c, rfl, k1, k2⟩ := hr4
          refine ⟨c, rfl, ?_⟩
          cases c with
          | false => exact ⟨_, rfl, k2 rfl⟩
          | true => exact ⟨⟨_, _, rfl⟩, k1 rfl⟩
    have hs : ∃ all, SqE X.K b H1 ad all := by
      cases n0 with
      | zero => obtain ⟨all, h, _⟩ := hE; exact ⟨all, h⟩
      | succ n => obtain ⟨all, _, h, _⟩ := hE; exact ⟨all, h⟩
    obtain ⟨all, hs⟩ := hs
    refine ⟨_, rfl, ad, all, rfl, ?_⟩
    cases b with
    | true =>
      refine .inl ⟨hs, main (Ite X.K ad) fun i H xs h => ⟨fun hi => ⟨xs, h, hi⟩, fun x hx => ⟨⟨xs, _, h, hx⟩, fun u H' hu => ?_⟩⟩⟩
      obtain ⟨T, x', e1, e2, e3, e4⟩ := hu
      have ex : x = x' := Option.some.inj (hx.symm.trans (e4 xs h))
      subst ex
      exact ⟨T, e1, e2, e3⟩
    | false =>
      refine .inr ⟨hs, main (IteT X.K ad) fun i H xs h => ⟨fun hi => ⟨xs, h, hi⟩, fun x hx => ⟨⟨xs, _, h, hx⟩, fun u H' hu => ?_⟩⟩⟩
      obtain ⟨T, x', e1, e2, e3, e4⟩ := hu
      have ex : x = x' := Option.some.inj (hx.symm.trans (e4 xs h))
      subst ex
      exact ⟨T, e1, e2, e3⟩
end
end Mm
end

section
/-! MmCy: first_bad(xs, lambda x: ..): its mirror. -/
namespace Mm
open PySem PySem.Spec L2 LamX
open PyProof.Rows (envOfC Fr)
section
variable [TabCtx]
/-- the lambda's run at a thing, in the frame that made it -/
def askM (j : Nat) (ml : M D) (d : D) : M D := fun S => if noOwns S.sl = true then (match ml ⟨S.sl.set j (.val d), S.g⟩ with | .ok r S' => .ok r ⟨S.sl, S'.g⟩ | .exc _ _ _ => .stuck | .stuck => .stuck) else .stuck
open Classical in
noncomputable def fbL (j : Nat) (ml : M D) (d : D) (v : Vw) : List D → Nat → M D
  | [], _ => fun S => if vwD S d = some v then .ok .non S else .stuck
  | x :: xs, i => fun S => if vwD S d = some v then (match askM j ml x S with
    | .ok (.bl true) S1 => fbL j ml d v xs (i + 1) S1
    | .ok (.bl false) S1 => .ok (.int (i : Nat)) S1
    | _ => .stuck) else .stuck
noncomputable def fbM (fl : F) (j : Nat) (me ml : M D) : M D := bd me fun d => fun S => match inF (fl [d]) S with
  | .ok (.bl false) S1 => .ok (.int 0) S1
  | .ok (.bl true) S1 => (match vwD S1 d with | some v => fbL j ml d v v.2 0 S1 | none => .stuck)
  | _ => .stuck
section
variable {c : Gm} {w w' : Wd} {S S' : Sg} {σ σ' : FSt} {H H' : Hp} {E : XK} {c' : Addr} {ql : Str}
theorem code_stay (s : Sim c w S σ H) (h : H c' = some (CodeO c' ql)) (st : Step w S σ H w' S' σ' H') (s' : Sim c w' S' σ' H') : H' c' = some (CodeO c' ql) := by
  cases hf : w.Hf c' with
  | none =>
    refine (st.keep c' _ h codeO_ne hf fun m => ?_).1
    rcases m with ⟨r, x, e, rfl⟩ | ⟨i, x, e, k⟩
    · exact ((s.cell r x e).2.1.nt _ h).2 ql rfl
    · obtain ⟨p, k1, k2, _⟩ := s.own i x e
      have : p = c' := by
        have z := k1.symm.trans k
        simpa using z
      subst this
      exact (k2.nt _ h).2 ql rfl
  | some o =>
    have e1 := s.fz _ _ hf
    rw [h] at e1
    cases e1
    exact s'.fz _ _ (st.le.hf _ _ hf)
theorem sqE_of {K : PySem.W.Frag} {b : Bool} {a : Addr} {vs : List V} (h : VwR H b a vs) : SqE K b H a vs := by
  cases b with
  | true => exact seqL_t h
  | false => exact seqL_f h
theorem fb_each {K : PySem.W.Frag} {mg : Str → Option Value} {j : Nat} {ml : M D} {d : D} {v : V} {vw : Vw} {Q : VK} : ∀ (rest : List D) (i : Nat) (w : Wd) (S : Sg) (H : Hp), Sim (gmOf K mg) w S σ H → H c' = some (CodeO c' ql) → Rep (gmOf K mg) w d v → vw.2.drop i = rest → i + rest.length = vw.2.length →
    Po (gmOf K mg) E (fbL j ml d vw rest i S) w S σ H (KD (gmOf K mg) Q) → ∃ a, v = .ref a ∧ FbEach K vw.1 a (fun u H' Q' => H' c' = some (CodeO c' ql) ∧ TM (gmOf K mg) E ml (σ.set j (some u)) H' Q') Q rest.length i H := by
  intro rest
  induction rest with
  | nil =>
    intro i w S H s hc r hd hl po
    unfold fbL at po
    by_cases hv : vwD S d = some vw
    · rw [if_pos hv] at po
      obtain ⟨a, vs, rfl, h1, h2⟩ := vwR_of s r hv
      have hlen := h2.length
      refine ⟨a, rfl, vs, sqE_of h1, ?_, po w H (.refl ..) s .non (by simp only [Rep])⟩
      simp at hl
      omega
    · rw [if_neg hv] at po; exact po.elim
  | cons x xs ih =>
    intro i w S H s hc r hd hl po
    unfold fbL at po
    by_cases hv : vwD S d = some vw
    · rw [if_pos hv] at po
      obtain ⟨a, vs, rfl, h1, h2⟩ := vwR_of s r hv
      have hx : vw.2[i]? = some x := by
        have := congrArg List.head? hd
        rw [List.head?_drop] at this
        exact this
      obtain ⟨vi, hvi, rvi⟩ := h2.get hx
      refine ⟨a, rfl, vs, vi, sqE_of h1, hvi, fun T hT => ⟨by rw [upd_ne (ne_of_none hc hT)]; exact hc, ?_⟩⟩
      unfold askM at po
      by_cases no : noOwns S.sl = true
      · rw [if_pos no] at po
        refine ⟨w, S.st j (.val x), (s.laid (.tup [.int (i : Nat), vi]) hT).setVal rvi, ?_⟩
        have st1 : Step w S σ H w (S.st j (.val x)) (σ.set j (some vi)) (upd H T (.tup [.int (i : Nat), vi])) := (Step.laid w S σ _ hT).trans (Step.setVal ..)
        show Po _ _ (ml ⟨S.sl.set j (.val x), S.g⟩) _ _ _ _ _
        cases em : ml ⟨S.sl.set j (.val x), S.g⟩ with
        | stuck => rw [em] at po; exact po
        | exc _ _ _ => rw [em] at po; exact po.elim
        | ok q S2 =>
          rw [em] at po
          intro w2 H2 st2 s2 u ru
          have sb := s.again no st2.le s2
          have stb : Step w S σ H w2 ⟨S.sl, S2.g⟩ σ H2 := Step.again no (st1.trans st2)
          cases q with
          | bl b =>
            have eu : u = .bl b := by simpa only [Rep] using ru
            subst eu
            refine ⟨b, rfl, fun hb => ?_, fun hb => ?_⟩
            · subst hb
              obtain ⟨a', e1, e2⟩ := ih (i + 1) w2 ⟨S.sl, S2.g⟩ H2 sb (code_stay s hc stb sb) (Rep.mono st2.le _ _ r) (by rw [← List.tail_drop, hd]; rfl) (by simp at hl; omega) (Po.rebase stb po)
              cases e1
              exact e2
            · subst hb
              exact po w2 H2 stb sb _ (by simp only [Rep])
          | _ => exact po.elim
      · rw [if_neg no] at po; exact po.elim
    · rw [if_neg hv] at po; exact po.elim
theorem tlam2_of {K : PySem.W.Frag} {mg : Str → Option Value} {fl : F} (hfl : Flat fl) {j : Nat} {me ml : M D} : ∀ σ H Q, TM (gmOf K mg) E (fbM fl j me ml) σ H Q → tLam2 (tabsOf K) ql j (TM (gmOf K mg) E me) (FbT K (spM (gmOf K mg) 1 fl) E) (TM (gmOf K mg) E ml) σ H Q := by
  rintro σ H Q ⟨w, S, s, po⟩
  unfold fbM at po
  refine ⟨w, S, s, Po.two (k := fun d => fun S => match inF (fl [d]) S with
    | .ok (.bl false) S1 => .ok (.int 0) S1
    | .ok (.bl true) S1 => (match vwD S1 d with | some v => fbL j ml d v v.2 0 S1 | none => .stuck)
    | _ => .stuck) po fun d w1 S1 H1 st1 s1 po1 v r => ⟨s1.tb, fun H2 c' eN t2 hc => ?_⟩⟩
  have s2 := s1.ext eN t2
  have st0 : Step w1 S1 σ H1 w1 S1 σ H2 := Step.ext eN
  have po2 := Po.rebase st0 po1
  have ff := hfl [d] S1.g
  refine ⟨rfl, w1, S1.g, [d], s2.drop, .cons r .nil, ?_⟩
  unfold inF at po2
  cases e : fl [d] ⟨[], S1.g⟩ with
  | stuck => rw [e] at po2; exact po2
  | exc _ _ _ => rw [e] at po2; exact po2.elim
  | ok q S3 =>
    rw [e] at po2 ff
    obtain ⟨sl3, g3⟩ := S3
    obtain rfl : sl3 = [] := ff
    intro w3 H3 st3 s3 u ru
    have sb : Sim (gmOf K mg) w3 ⟨S1.sl, g3⟩ σ H3 := s2.back st3 s3
    have stb : Step w1 S1 σ H2 w3 ⟨S1.sl, g3⟩ σ H3 := Step.back s2 st3
    cases q with
    | bl b =>
      have eu : u = .bl b := by simpa only [Rep] using ru
      subst eu
      refine ⟨b, rfl, fun hb => ?_, fun hb => ?_⟩
      · subst hb
        exact po2 w3 H3 stb sb _ (by simp only [Rep])
      · subst hb
        have po3 : Po (gmOf K mg) E (match vwD ⟨S1.sl, g3⟩ d with | some v => fbL j ml d v v.2 0 ⟨S1.sl, g3⟩ | none => .stuck) w1 S1 σ H2 (KD (gmOf K mg) Q) := po2
        cases ev : vwD ⟨S1.sl, g3⟩ d with
        | none => rw [ev] at po3; exact po3.elim
        | some vw =>
          rw [ev] at po3
          obtain ⟨a, e1, e2⟩ := fb_each (c' := c') (ql := ql) vw.2 0 w3 ⟨S1.sl, g3⟩ H3 sb (code_stay s2 hc stb sb) (Rep.mono st3.le _ _ r) (by simp) (by simp) (Po.rebase stb po3)
          exact ⟨_, a, _, e1, e2⟩
    | _ => exact po2.elim
end
end
end Mm
end

section
/-! MmCz: first_bad(xs, lambda x: ..): the rule. -/
namespace Mm
open PySem PySem.Spec L2 LamX
open PyProof.Rows (envOfC Fr)
section
variable [TabCtx]
theorem spM_mono {c : Gm} {n : Nat} {f : F} : ∀ vs H Q Q' E, spM c n f vs H Q E → (∀ v H, Q v H → Q' v H) → spM c n f vs H Q' E := by
  rintro vs H Q Q' E ⟨h, w, g, ds, s, r, po⟩ k
  exact ⟨h, w, g, ds, s, r, po.imp fun a w' S' H' _ _ h v rv => k _ _ (h v rv)⟩
theorem tm_mono {c : Gm} {E : XK} {m : M D} : ∀ σ H Q Q', TM c E m σ H Q → (∀ v H, Q v H → Q' v H) → TM c E m σ H Q' := by
  rintro σ H Q Q' ⟨w, S, s, po⟩ k
  exact ⟨w, S, s, po.imp fun a w' S' H' _ _ h v rv => k _ _ (h v rv)⟩
section
variable {X : Cx} {E : XK} {j k k0 i : Nat} {nm t x0 q b0 a : Str} {st stl : Stmt} {fl : F} {N : List Str} {me ml : M D} {params : Arguments} {body e : Expr} {scope : Scope} {p lpos pos : Pos}
theorem me_fb (cl : FnM X.prog X.w X.K X.mg X.base k0 nm stl [t] fl) (I : DefIn X.K X.mg "first_bad" st) (hb : ∀ {fa fd}, Fun X.K "first_bad" "first_bad" st fa fd → L2.Binds X.K fd [b0, a] []) (S : FnScope N [b0, a] (defScope st)) (hN1 : N[1]? = some a) (hva : Vis (defScope st) a)
    (G : ∀ {fa fd}, FnOk X.prog X.w X.K X.mg X.base (L2.CX X.prog X.w) k0 fa fd [t] (spM (cg X) 1 fl) → X.mg nm = some (.ref fa) → PySem.W.keepIn X.K (.ref fa) = true → L2.Binds X.K fd [t] [] → ∀ (g : Addr) (cdv : Value), Gives2 X k N "first_bad" (defScope st) g cdv (defBody st) a E (FbT X.K (spM (cg X) 1 fl) E))
    (hg : Gl X "first_bad") (hr : Room j X.A) (hk : k + 2 ≤ j) (hc : LamCd X.K X.mg X.base x0 X.env.code) (hx0 : x0 ∈ TabCtx.xs) (hu : TabsOk X.K) (L : lamPB X.env.scope scope q = true) (hx : Passes (L2.CX X.prog X.w) X E) (hj : X.N[i]? = some q) (hnd : X.N.Nodup)
    (he : PE X e (TM (cg X) E me))
    (hbody : ∀ (A : Around) (outer : List Env) (s : Shared) (H : Hp) (f c' : Addr), Room k (A.deeper (lamEnv X scope s.heap.objs.size f c')) → PE (lamCx X A outer s H E scope f c') body (TM (cg X) E ml))
    (hq : X.env.qual ++ "<lambda>" = lamQ x0 := by rfl) (hdef : defaultsOf params X.env = ([], []) := by rfl)
    (hbind : ∀ (qq : Str) (cl : List (Str × Addr)) (pm cv ctv u : Value), bindArgs (PySem.W.kla_fn "<lambda>" qq params body scope cl pm cv ctv) ⟨[u], []⟩ = pure [(q, u)] := by intros; rfl)
    (hd : (a == ("__debug__" : Str)) = false := by decide) (hcd : (a == ("__classdict__" : Str)) = false := by decide)
    (hs : starEach [e, .Lambda params body scope lpos] X.env = (false, eval e X.env) :: starEach [.Lambda params body scope lpos] X.env := by rfl) :
    PE X (.Call (.Name "first_bad" p) [e, .Lambda params body scope lpos] [] pos) (TM (cg X) E (fbM fl i me ml)) := by
  obtain ⟨fa, fd, F, hml, hkl, hbl, _⟩ := cl.ex
  obtain ⟨ga, gd, hm, Fu⟩ := I.ex
  have b := hb Fu
  have kp := Fu.kp
  obtain ⟨oc, od, kV, doc, pm, an, cdv, ct, osl, rfl, lk, hcg⟩ := Fu.ex
  obtain ⟨c, P, e1, e2, TB⟩ := hc
  have hmT : (P, X.env.qual ++ "<lambda>") ∈ tabsOf X.K := by
    unfold tabsOf
    refine List.mem_filterMap.mpr ⟨x0, hx0, ?_⟩
    rw [e2, hq]; rfl
  have hnd' : ∀ i', X.N[i']? = some q → i' = i := fun i' hi => by
    have h1 := (List.getElem?_eq_some_iff.mp hi).1
    exact (List.getElem?_inj h1 hnd).mp (hi.trans hj.symm)
  refine PE.weak (pe_lam2 (T := tabsOf X.K) (k := k) hg hm kp lk hcg b S hN1 hva (G F hml hkl hbl ga cdv) hx TB e1 hmT (fun p hp hP => ?_) (hr.mono hk) (lamP_by L) hdef hbind hj hnd' he hbody tm_mono (by decide) hd hcd hs) (fun σ H Q h => tlam2_of cl.flat σ H Q h)
  unfold tabsOf at hp
  obtain ⟨y, hy, ey⟩ := List.mem_filterMap.mp hp
  cases et : PySem.W.tabIn X.K y with
  | none => rw [et] at ey; cases ey
  | some z =>
    rw [et] at ey
    cases ey
    rw [hq, hu y hy x0 hx0 z (c, P) et e2 hP]
end
end
end Mm
end

section
/-! MmU: ints, rows of dInts, lists of rows: == and in of them. -/
namespace Mm
open PySem L2
variable [TabCtx]
/-- a row of ints; a list of rows -/
def dInts (ns : List Int) : D := .lst (ns.map D.int)
def dRows (rs : List (List Int)) : D := .lst (rs.map dInts)
def pInts (ns : List Int) : PyData := .list (ns.map PyData.int)
def pRows (rs : List (List Int)) : PyData := .list (rs.map pInts)
theorem pyDs_ints : ∀ ns : List Int, pyDs (ns.map D.int) = some (ns.map PyData.int)
  | [] => by simp [pyDs]
  | n :: ns => by simp [pyDs, pyD, pyDs_ints ns]
@[simp] theorem pyD_int {i : Int} : pyD (.int i) = some (.int i) := by simp [pyD]
@[simp] theorem pyD_bl {b : Bool} : pyD (.bl b) = some (.bool b) := by simp [pyD]
@[simp] theorem pyD_ints {ns : List Int} : pyD (dInts ns) = some (pInts ns) := by simp [dInts, pyD, pyDs_ints, pInts]
theorem pyDs_rows : ∀ rs : List (List Int), pyDs (rs.map dInts) = some (rs.map pInts)
  | [] => by simp [pyDs]
  | r :: rs => by simp [pyDs, pyDs_rows rs]
@[simp] theorem pyD_rows {rs : List (List Int)} : pyD (dRows rs) = some (pRows rs) := by simp [dRows, pyD, pyDs_rows, pRows]
theorem depthAll_ints : ∀ ns : List Int, PyData.depthAll (ns.map PyData.int) = 0
  | [] => by simp [PyData.depthAll]
  | n :: ns => by simp [PyData.depthAll, PyData.depth, depthAll_ints ns]
theorem canLay_ints : ∀ ns : List Int, PyData.canLayAll0 (ns.map PyData.int) = true
  | [] => by simp [PyData.canLayAll0]
  | n :: ns => by simp [PyData.canLayAll0, PyData.canLay0, canLay_ints ns]
theorem depth_ints (ns : List Int) : (pInts ns).depth = 1 := by simp [pInts, PyData.depth, depthAll_ints]
theorem depthAll_rows : ∀ rs : List (List Int), PyData.depthAll (rs.map pInts) ≤ 1
  | [] => by simp [PyData.depthAll]
  | r :: rs => by
    have := depthAll_rows rs
    simp only [List.map_cons, PyData.depthAll, depth_ints]
    omega
theorem canLay_rows : ∀ rs : List (List Int), PyData.canLayAll0 (rs.map pInts) = true
  | [] => by simp [PyData.canLayAll0]
  | r :: rs => by simp [PyData.canLayAll0, PyData.canLay0, pInts, canLay_ints, canLay_rows rs]
@[simp] theorem shaped_int {i : Int} : SeqAt.shaped (.int i) = true := by simp [SeqAt.shaped, PyData.canLay0, PyData.depth]
@[simp] theorem shaped_bl {b : Bool} : SeqAt.shaped (.bool b) = true := by simp [SeqAt.shaped, PyData.canLay0, PyData.depth]
@[simp] theorem shaped_ints {ns : List Int} : SeqAt.shaped (pInts ns) = true := by simp [SeqAt.shaped, pInts, PyData.canLay0, PyData.depth, canLay_ints, depthAll_ints]
@[simp] theorem shaped_rows {rs : List (List Int)} : SeqAt.shaped (pRows rs) = true := by
  have := depthAll_rows rs
  simp only [SeqAt.shaped, pRows, PyData.canLay0, PyData.depth, canLay_rows, Bool.true_and, decide_eq_true_eq]
  omega
@[simp] theorem eqv_int {i j : Int} : PyData.eqv (.int i) (.int j) = decide (i = j) := by simp only [PyData.eqv]; exact Bool.beq_eq_decide_eq i j
@[simp] theorem eqv_bl {i j : Bool} : PyData.eqv (.bool i) (.bool j) = decide (i = j) := by simp only [PyData.eqv]; exact Bool.beq_eq_decide_eq i j
theorem eqvAll_ints : ∀ a b : List Int, PyData.eqvAll (a.map PyData.int) (b.map PyData.int) = decide (a = b)
  | [], [] => by simp [PyData.eqvAll]
  | [], _ :: _ => by simp [PyData.eqvAll]
  | _ :: _, [] => by simp [PyData.eqvAll]
  | x :: xs, y :: ys => by simp [PyData.eqvAll, eqvAll_ints xs ys]
@[simp] theorem eqv_ints {a b : List Int} : PyData.eqv (pInts a) (pInts b) = decide (a = b) := by simp [pInts, PyData.eqv, eqvAll_ints]
theorem eqvAll_rows : ∀ a b : List (List Int), PyData.eqvAll (a.map pInts) (b.map pInts) = decide (a = b)
  | [], [] => by simp [PyData.eqvAll]
  | [], _ :: _ => by simp [PyData.eqvAll]
  | _ :: _, [] => by simp [PyData.eqvAll]
  | x :: xs, y :: ys => by simp [PyData.eqvAll, eqvAll_rows xs ys]
@[simp] theorem eqv_rows {a b : List (List Int)} : PyData.eqv (pRows a) (pRows b) = decide (a = b) := by simp [pRows, PyData.eqv, eqvAll_rows]
section
variable {S : Sg} {i j : Int} {a b : List Int} {as bs : List (List Int)} {Q : D → Sg → Prop}
@[simp] theorem ok_eqI : Ok (eqM (.int i) (.int j) S) Q ↔ Q (.bl (decide (i = j))) S := by simp [eqM, eqP]
@[simp] theorem ok_neI : Ok (neM (.int i) (.int j) S) Q ↔ Q (.bl (!decide (i = j))) S := by simp [neM, eqP]
@[simp] theorem ok_eqR : Ok (eqM (dInts a) (dInts b) S) Q ↔ Q (.bl (decide (a = b))) S := by simp [eqM, eqP]
@[simp] theorem ok_neR : Ok (neM (dInts a) (dInts b) S) Q ↔ Q (.bl (!decide (a = b))) S := by simp [neM, eqP]
@[simp] theorem ok_eqRs : Ok (eqM (dRows as) (dRows bs) S) Q ↔ Q (.bl (decide (as = bs))) S := by simp [eqM, eqP]
@[simp] theorem ok_eqB {x y : Bool} : Ok (eqM (.bl x) (.bl y) S) Q ↔ Q (.bl (decide (x = y))) S := by simp [eqM, eqP]
@[simp] theorem ok_neB {x y : Bool} : Ok (neM (.bl x) (.bl y) S) Q ↔ Q (.bl (!decide (x = y))) S := by simp [neM, eqP]
theorem ok_eqHM {neg : Bool} {x y : M Hd} : Ok (eqHM neg x y S) Q ↔ Ok (x S) fun h S1 => Ok (y S1) fun k S2 => onO (vwH S2 h) fun u => onO (vwH S2 k) fun v => Ok (eqP neg (pyV u) (pyV v) S2) Q := by
  unfold eqHM
  simp only [ok_bd, ok_seeI]
theorem ok_inM {neg : Bool} {m : M D} {h : M Hd} : Ok (inM neg m h S) Q ↔ Ok (m S) fun d S1 => Ok (h S1) fun k S2 => onO (vwH S2 k) fun v => Ok (inP neg d v S2) Q := by
  unfold inM
  simp only [ok_bd, ok_seeI]
theorem any_ints {ns : List Int} : (ns.map PyData.int).any (fun z => PyData.eqv z (.int i)) = decide (i ∈ ns) := by
  induction ns with
  | nil => simp
  | cons n ns ih =>
    simp only [List.map_cons, List.any_cons, ih, eqv_int]
    simp only [List.mem_cons, eq_comm (a := i)]
    by_cases h : n = i <;> by_cases h2 : i ∈ ns <;> simp [h, h2]
theorem any_rows {rs : List (List Int)} : (rs.map pInts).any (fun z => PyData.eqv z (pInts a)) = decide (a ∈ rs) := by
  induction rs with
  | nil => simp
  | cons n ns ih =>
    simp only [List.map_cons, List.any_cons, ih, eqv_ints]
    simp only [List.mem_cons, eq_comm (a := a)]
    by_cases h : n = a <;> by_cases h2 : a ∈ ns <;> simp [h, h2]
theorem shaped_lints {ns : List Int} : SeqAt.shaped (.list (ns.map PyData.int)) = true := shaped_ints (ns := ns)
theorem shaped_lrows {rs : List (List Int)} : SeqAt.shaped (.list (rs.map pInts)) = true := shaped_rows (rs := rs)
@[simp] theorem ok_inI {neg : Bool} {ns : List Int} : Ok (inP neg (.int i) (true, ns.map D.int) S) Q ↔ Q (.bl (if neg then !decide (i ∈ ns) else decide (i ∈ ns))) S := by
  have h := any_ints (i := i) (ns := ns)
  simp only [inP, if_true, pyD_int, pyDs_ints, shaped_int, shaped_lints, Bool.and_self, h, ok_ret]
@[simp] theorem ok_inR {neg : Bool} {rs : List (List Int)} : Ok (inP neg (dInts a) (true, rs.map dInts) S) Q ↔ Q (.bl (if neg then !decide (a ∈ rs) else decide (a ∈ rs))) S := by
  have h := any_rows (a := a) (rs := rs)
  simp only [inP, if_true, pyD_ints, pyDs_rows, shaped_ints, shaped_lrows, Bool.and_self, h, ok_ret]
end
end Mm
end

section
/-! MmV: what runs well: and, or, not, chains, fields, methods, comprehensions that change nothing. -/
namespace Mm
open PySem L2
variable [TabCtx]
def onB (d : D) (p : Bool → Prop) : Prop := ∃ b, d = .bl b ∧ p b
@[simp] theorem onB_bl {b : Bool} {p : Bool → Prop} : onB (.bl b) p ↔ p b := ⟨fun ⟨_, e, h⟩ => by cases e; exact h, fun h => ⟨b, rfl, h⟩⟩
def onI (d : D) (p : Int → Prop) : Prop := ∃ i, d = .int i ∧ p i
@[simp] theorem onI_int {i : Int} {p : Int → Prop} : onI (.int i) p ↔ p i := ⟨fun ⟨_, e, h⟩ => by cases e; exact h, fun h => ⟨i, rfl, h⟩⟩
def onX (d : D) (p : Nat → Prop) : Prop := ∃ r, d = .box r ∧ p r
@[simp] theorem onX_box {r : Nat} {p : Nat → Prop} : onX (.box r) p ↔ p r := ⟨fun ⟨_, e, h⟩ => by cases e; exact h, fun h => ⟨r, rfl, h⟩⟩
section
variable {S : Sg} {sl : List Slot} {g : G} {Q : D → Sg → Prop} {d x y : D} {i j : Int} {a b c : M D}
theorem ok_andV : Ok (andV a b S) Q ↔ Ok (a S) fun x S1 => onB x fun p => if p = true then Ok (b S1) (fun y S2 => onB y fun k => Q (.bl k) S2) else Q (.bl false) S1 := by
  unfold andV
  rw [ok_bd]
  refine ok_congr fun x S1 => ?_
  cases x with
  | bl p =>
    cases p with
    | true =>
      simp only [ok_bd, onB_bl, if_true]
      refine ok_congr fun y S2 => ?_
      cases y <;> simp [onB]
    | false => simp
  | _ => simp [onB]
theorem ok_orV : Ok (orV a b S) Q ↔ Ok (a S) fun x S1 => onB x fun p => if p = true then Q (.bl true) S1 else Ok (b S1) (fun y S2 => onB y fun k => Q (.bl k) S2) := by
  unfold orV
  rw [ok_bd]
  refine ok_congr fun x S1 => ?_
  cases x with
  | bl p =>
    cases p with
    | true => simp
    | false =>
      simp only [ok_bd, onB_bl, if_false, Bool.false_eq_true]
      refine ok_congr fun y S2 => ?_
      cases y <;> simp [onB]
  | _ => simp [onB]
theorem ok_notV : Ok (notV a S) Q ↔ Ok (a S) fun x S1 => onB x fun p => Q (.bl (!p)) S1 := by
  unfold notV
  rw [ok_bd]
  refine ok_congr fun x S1 => ?_
  cases x <;> simp [onB]
theorem ok_negM : Ok (negM a S) Q ↔ Ok (a S) fun x S1 => onI x fun p => Q (.int (-p)) S1 := by
  unfold negM
  rw [ok_bd]
  refine ok_congr fun x S1 => ?_
  cases x <;> simp [onI]
@[simp] theorem ok_isNT {Q : Bool → Sg → Prop} : Ok (isNT a S) Q ↔ Ok (a S) fun x S1 => Q (isN x) S1 := by unfold isNT; simp only [ok_bd, ok_ret]
@[simp] theorem ok_notNT {Q : Bool → Sg → Prop} : Ok (notNT a S) Q ↔ Ok (a S) fun x S1 => Q (!isN x) S1 := by unfold notNT; simp only [ok_bd, ok_ret]
theorem ok_v2 {f : D → D → M D} : Ok (v2 a b f S) Q ↔ Ok (a S) fun x S1 => Ok (b S1) fun y S2 => Ok (f x y S2) Q := by unfold v2; simp only [ok_bd]
@[simp] theorem ok_min2F : Ok (min2F (.int i) (.int j) S) Q ↔ Q (.int (if j < i then j else i)) S := ok_ok
@[simp] theorem ok_max2F : Ok (max2F (.int i) (.int j) S) Q ↔ Q (.int (if i < j then j else i)) S := ok_ok
@[simp] theorem ok_tupleF {v : Vw} : Ok (tupleF v S) Q ↔ Q (.tup v.2) S := ok_ok
theorem ok_allF {bs : List Bool} : Ok (allF (true, bs.map D.bl) S) Q ↔ Q (.bl (bs.all id)) S := by
  unfold allF onBls
  rw [if_pos rfl, blsOf_map]
  exact ok_ok
theorem ok_anyF {bs : List Bool} : Ok (anyF (true, bs.map D.bl) S) Q ↔ Q (.bl (bs.any id)) S := by
  unfold anyF onBls
  rw [if_pos rfl, blsOf_map]
  exact ok_ok
theorem ok_indexM {h : M Hd} {m : M D} : Ok (indexM h m S) Q ↔ Ok (h S) fun x S1 => onO (vwH S1 x) fun u => u.1 = true ∧ Ok (m S1) fun d S2 => onO (vwH S2 x) fun v => Ok (indexD v d S2) Q := by
  unfold indexM
  simp only [ok_bd, ok_seeI]
  refine ok_congr fun x S1 => ?_
  constructor
  · rintro ⟨u, e, h⟩
    refine ⟨u, e, ?_⟩
    by_cases hu : u.1 = true
    · simp only [if_pos hu, ok_bd, ok_seeI] at h; exact ⟨hu, h⟩
    · simp only [if_neg hu] at h; exact (ok_nope.mp h).elim
  · rintro ⟨u, e, hu, h⟩
    refine ⟨u, e, ?_⟩
    simp only [if_pos hu, ok_bd, ok_seeI]; exact h
/-! ### fields -/
theorem ok_fldM {Cs : List Str} {f : Str} {m : M D} : Ok (fldM Cs f m S) Q ↔ Ok (m S) fun d S1 => onX d fun r => ∃ C fs z, S1.g.cs r = some (.ins C fs) ∧ C ∈ Cs ∧ lookA f fs = some z ∧ Q z S1 := by
  unfold fldM
  rw [ok_bd]
  refine ok_congr fun x S1 => ?_
  cases x with
  | box r =>
    simp only [onX_box]
    cases h : S1.g.cs r with
    | none => simp
    | some z =>
      cases z with
      | ins C fs =>
        simp only
        by_cases hC : C ∈ Cs
        · rw [if_pos hC]
          cases hl : lookA f fs with
          | none => simp [hl]
          | some w =>
            simp only [ok_ok]
            exact ⟨fun q => ⟨C, fs, w, rfl, hC, hl, q⟩, fun ⟨C', fs', w', e1, _, e2, q⟩ => by cases e1; rw [hl] at e2; cases e2; exact q⟩
        · rw [if_neg hC]
          simp only [ok_stuck, false_iff]
          rintro ⟨C', fs', w', e1, e3, _⟩
          cases e1; exact hC e3
      | _ => simp
  | _ => simp [onX]
theorem ok_makeM {C : Str} {f : F} {ms : M (List D)} : Ok (makeM C f ms S) Q ↔ Ok (ms S) fun ds S1 => Ok (newM C f ds S1) Q := by unfold makeM; rw [ok_bd]
theorem ok_makeK {C : Str} {f : F} {ms : M (List D)} {idx : List Nat} : Ok (makeK C f idx ms S) Q ↔ Ok (ms S) fun ds S1 => Ok (newM C f (perm idx ds) S1) Q := by unfold makeK; rw [ok_bd]
theorem ok_methM {C m : Str} {f : F} {mo : M D} {ms : M (List D)} : Ok (methM C m f mo ms S) Q ↔ Ok (mo S) fun x S0 => Ok (recM C m x S0) fun d S1 => Ok (ms S1) fun ds S2 => Ok (f (d :: ds) ⟨[], S2.g⟩) fun y S3 => Q y ⟨S2.sl, S3.g⟩ := by
  unfold methM
  simp only [ok_bd, ok_inF]
theorem ok_eqOwnM {fns cls : List Str} {C : Str} {f : F} : Ok (eqOwnM fns cls C f a b S) Q ↔ Ok (a S) fun x S0 => Ok (b S0) fun y S1 => Ok (recM C "__eq__" x S1) fun x' S2 => (tyD fns cls S2 y).isSome = true ∧ Ok (f [x', y] ⟨[], S2.g⟩) fun z S3 => Q z ⟨S2.sl, S3.g⟩ := by
  unfold eqOwnM eqOwn
  simp only [ok_bd]
  refine ok_congr fun x S0 => ok_congr fun y S1 => ok_congr fun x' S2 => ?_
  cases h : tyD fns cls S2 y with
  | none => simp
  | some t => simp [ok_inF]
theorem ok_neOwnM {fns cls : List Str} {C : Str} {f : F} : Ok (neOwnM fns cls C f a b S) Q ↔ Ok (eqOwnM fns cls C f a b S) fun x S1 => onB x fun p => Q (.bl (!p)) S1 := by
  unfold neOwnM
  rw [ok_notV]
/-! ### ints and rows, folded -/
@[simp] theorem vw_dI {ns : List Int} : vwH S (.d (dInts ns)) = some (true, ns.map D.int) := rfl
@[simp] theorem vwD_dI {ns : List Int} : vwD S (dInts ns) = some (true, ns.map D.int) := rfl
@[simp] theorem vw_dR {rs : List (List Int)} : vwH S (.d (dRows rs)) = some (true, rs.map dInts) := rfl
@[simp] theorem vwD_dR {rs : List (List Int)} : vwD S (dRows rs) = some (true, rs.map dInts) := rfl
@[simp] theorem ok_frzI {ns : List Int} : Ok (frzC (.lst (ns.map D.int)) S) Q ↔ Q (dInts ns) S := Iff.rfl.trans ok_frzC
@[simp] theorem ok_frzR {rs : List (List Int)} : Ok (frzC (.lst (rs.map dInts)) S) Q ↔ Q (dRows rs) S := Iff.rfl.trans ok_frzC
theorem cut_to {xs : List D} {k : Int} (h : 0 ≤ k) : cutD xs none (some k) = xs.take k.toNat := by
  unfold cutD
  obtain ⟨m, rfl⟩ := Int.eq_ofNat_of_zero_le h
  rw [HT.sIx_none, HT.sIx_nat, Nat.sub_zero, List.drop_zero, Int.toNat_natCast, List.take_eq_take_iff]
  omega
theorem cut_from {xs : List D} {k : Int} (h : 0 ≤ k) : cutD xs (some k) none = xs.drop k.toNat := by
  unfold cutD
  obtain ⟨m, rfl⟩ := Int.eq_ofNat_of_zero_le h
  rw [HT.sIx_none, HT.sIx_nat, Int.toNat_natCast]
  by_cases l : m ≤ xs.length
  · rw [Nat.min_eq_left l, ← List.length_drop, List.take_length]
  · rw [Nat.min_eq_right (by omega), List.drop_eq_nil_of_le (Nat.le_refl _), List.drop_eq_nil_of_le (by omega), List.take_nil]
theorem cutI_to {α : Type} {f : α → D} {ns : List α} {k : Int} (h : 0 ≤ k) : cutD (ns.map f) none (some k) = (ns.take k.toNat).map f := by
  rw [cut_to h, List.map_take]
theorem cutI_from {α : Type} {f : α → D} {ns : List α} {k : Int} (h : 0 ≤ k) : cutD (ns.map f) (some k) none = (ns.drop k.toNat).map f := by
  rw [cut_from h, List.map_drop]
theorem ok_rdv {i : Nat} (h : sl[i]? = some (.val d)) (q : Q d ⟨sl, g⟩) : Ok (rd i ⟨sl, g⟩) Q := by
  rw [ok_rd, h]; exact q
/-! ### a comprehension that changes nothing -/
theorem onO_of {α : Type} {o : Option α} {a : α} {p : α → Prop} (e : o = some a) (h : p a) : onO o p := ⟨a, e, h⟩
end
end Mm
end

section
/-! MmW: a table by unlike ints; isinstance of what is known. -/
namespace Mm
open PySem L2
variable [TabCtx]
section
variable {S : Sg} {sl : List Slot} {g : G} {d x y : D} {i j : Int}
theorem putA_new {κ α : Type} [DecidableEq κ] {kvs : List (κ × α)} {k : κ} {v : α} (h : k ∉ kvs.map (·.1)) : putA kvs k v = kvs ++ [(k, v)] := by
  unfold putA
  rw [if_neg]
  rw [List.any_eq_true]
  rintro ⟨kv, h1, h2⟩
  exact h (List.mem_map.mpr ⟨kv, h1, of_decide_eq_true h2⟩)
@[simp] theorem ok_lenDK {Q : D → Sg → Prop} {kvs : List (Key × D)} : Ok (lenC (.dK kvs) S) Q ↔ Q (.int kvs.length) S := ok_ok
/-! ### isinstance -/
variable {fns cls : List Str}
theorem isi_of {Q : D → Sg → Prop} {a b : M D} : Ok (isiM fns cls a b S) Q ↔ Ok (a S) fun x S1 => Ok (b S1) fun y S2 => Ok (isiF fns cls [x, y] S2) Q := by
  unfold isiM
  simp only [ok_bd, ok_consM, ok_nilM]
theorem isi_int {t : String} (ht : t ∈ known) : isiF fns cls [.int i, .ty t] S = .ok (.bl (isT "int" t)) S := by
  simp [isiF, tyD, clD, ht, kitT]
def isL (b : Bool) : String := if b = true then "list" else "tuple"
theorem isi_seq {v : Vw} {t : String} (h : vwD S d = some v) (ht : t ∈ known) : isiF fns cls [d, .ty t] S = .ok (.bl (isT (isL v.1) t)) S := by
  cases d with
  | lst xs => simp at h; subst h; simp [isiF, tyD, clD, ht, kitT, isL]
  | tup xs => simp at h; subst h; simp [isiF, tyD, clD, ht, kitT, isL]
  | box r =>
    unfold vwD at h
    cases e : S.g.cs r with
    | none => simp [e] at h
    | some c => cases c <;> simp [e] at h; subst h; simp [isiF, tyD, clD, ht, kitT, isL, e]
  | _ => simp [vwD] at h
theorem isi_seqs {v : Vw} (h : vwD S d = some v) : isiF fns cls [d, .tup [.ty "list", .ty "tuple"]] S = .ok (.bl true) S := by
  have k1 : "list" ∈ known := by decide
  have k2 : "tuple" ∈ known := by decide
  have t1 : isT "list" "list" = true := by decide
  have t2 : isT "tuple" "list" = false := by decide
  have t3 : isT "tuple" "tuple" = true := by decide
  cases d with
  | lst xs => simp [isiF, tyD, clDs, clD, k1, k2, kitTs, kitT, t1]
  | tup xs => simp [isiF, tyD, clDs, clD, k1, k2, kitTs, kitT, t2, t3]
  | box r =>
    unfold vwD at h
    cases e : S.g.cs r with
    | none => simp [e] at h
    | some c => cases c <;> simp [e] at h; simp [isiF, tyD, clDs, clD, k1, k2, kitTs, kitT, t1, e]
  | _ => simp [vwD] at h
end
end Mm
end

section
/-! MmY: a run step by step, backwards: lemmas of one form each. -/
namespace Mm
open PySem L2
variable [TabCtx]
section
variable {α β : Type} {S : Sg} {sl : List Slot} {g : G} {Q : D → Sg → Prop} {d x y : D} {i j : Int} {n : Nat} {xs ys : List D}
theorem k_hdv {Q : Hd → Sg → Prop} (h : sl[n]? = some (.val d)) (q : Q (.d d) ⟨sl, g⟩) : Ok (hdN n ⟨sl, g⟩) Q := by rw [ok_hdN, h]; exact q
theorem k_hdo {Q : Hd → Sg → Prop} (h : sl[n]? = some (.own (.lst xs))) (q : Q (.sl n) ⟨sl, g⟩) : Ok (hdN n ⟨sl, g⟩) Q := by rw [ok_hdN, h]; exact q
theorem k_rdo (h : sl[n]? = some (.own (.lst xs))) (q : Q (.lst xs) ⟨sl.set n (.val (.lst xs)), g⟩) : Ok (rd n ⟨sl, g⟩) Q := by rw [ok_rd, h]; exact q
theorem k_plb {Q : Pl → Sg → Prop} {r : Nat} (h : sl[n]? = some (.val (.box r))) (q : Q (.bx r) ⟨sl, g⟩) : Ok (plN n ⟨sl, g⟩) Q := by rw [ok_plN, h]; exact q
theorem k_plo {Q : Pl → Sg → Prop} {c : Cell} (h : sl[n]? = some (.own c)) (q : Q (.sl n) ⟨sl, g⟩) : Ok (plN n ⟨sl, g⟩) Q := by rw [ok_plN, h]; exact q
theorem onL_of {o : Option Cell} {p : List D → Prop} (e : o = some (.lst xs)) (h : p xs) : onL o p := ⟨xs, e, h⟩
theorem ite_t {A B : Prop} (h : A) : if true = true then A else B := by rw [if_pos rfl]; exact h
theorem ite_f {A B : Prop} (h : B) : if false = true then A else B := by rw [if_neg (by decide)]; exact h
theorem ite_nt {A B : Prop} (h : B) : if (!true) = true then A else B := by rw [if_neg (by decide)]; exact h
theorem ite_nf {A B : Prop} (h : A) : if (!false) = true then A else B := by rw [if_pos (by decide)]; exact h
theorem ite_if {A B : Prop} {p : Prop} [Decidable p] (h1 : p → A) (h2 : ¬ p → B) : if decide p = true then A else B := by
  by_cases h : p
  · rw [if_pos (by simpa using h)]; exact h1 h
  · rw [if_neg (by simpa using h)]; exact h2 h
theorem k_app {p : D × List D → Prop} (q : p (.non, xs ++ [d])) (h : xs.length < sizeLine) : onO (appF [d] xs) p := by
  show onO (if xs.length < sizeLine then some (D.non, xs ++ [d]) else none) p
  rw [if_pos h]
  exact onO_of rfl q
theorem k_len {p : Prop} {xs : List D} (q : p) (h : xs.length ≤ 1000 := by decide) : xs.length ≤ sizeLine ∧ p := ⟨by rw [sizeLine_eq]; omega, q⟩
theorem k_cat {p : Prop} {us vs : List D} (q : p) (h : us.length + vs.length ≤ sizeLine) : ((true, us).1 = true ∧ (true, vs).1 = true ∧ (true, us).2.length + (true, vs).2.length ≤ sizeLine) ∧ p := ⟨⟨rfl, rfl, h⟩, q⟩
theorem k_ext {p : Prop} {us vs : List D} (q : p) (h : us.length + vs.length ≤ sizeLine) : ((true, vs).1 = true ∧ us.length + (true, vs).2.length ≤ sizeLine) ∧ p := ⟨⟨rfl, h⟩, q⟩
theorem k_sl {v : Vw} {A B : Prop} (h : v.1 = true) (q : A) : if v.1 = true then A else B := by rw [if_pos h]; exact q
theorem k_inIf {a : Int} {ns : List Int} {S : Sg} : Ok (inP false (.int a) (true, ns.map D.int) S) Q ↔ Q (.bl (decide (a ∈ ns))) S := by rw [ok_inI]; rfl
theorem k_inIt {a : Int} {ns : List Int} {S : Sg} : Ok (inP true (.int a) (true, ns.map D.int) S) Q ↔ Q (.bl (!decide (a ∈ ns))) S := by rw [ok_inI]; rfl
theorem k_inRf {a : List Int} {rs : List (List Int)} {S : Sg} : Ok (inP false (dInts a) (true, rs.map dInts) S) Q ↔ Q (.bl (decide (a ∈ rs))) S := by rw [ok_inR]; rfl
theorem k_inRt {a : List Int} {rs : List (List Int)} {S : Sg} : Ok (inP true (dInts a) (true, rs.map dInts) S) Q ↔ Q (.bl (!decide (a ∈ rs))) S := by rw [ok_inR]; rfl
theorem k_items {ok : Vw} {Q : Src → Sg → Prop} (h : vwD S d = some ok) (q : Q ⟨ok.2, fun S' => vwD S' d = some ok⟩ S) : Ok (itemsD d S) Q := by rw [ok_itemsD, h]; exact onO_of rfl q
theorem k_enum {ok : Vw} {Q : Src → Sg → Prop} (h : vwD S d = some ok) (q : Q ⟨enFrom 0 ok.2, fun S' => vwD S' d = some ok⟩ S) : Ok (enumS d S) Q := by rw [ok_enumS, h]; exact onO_of rfl q
theorem k_rng1 {Q : Src → Sg → Prop} (h : -(2 ^ 62) ≤ j ∧ j < 2 ^ 62) (q : Q ⟨rngD 0 j.toNat, always⟩ S) : Ok (rng1 (.int j) S) Q := ok_rng1.mpr ⟨h, q⟩
theorem ok_getDM {P : M Pl} {mi : M D} : Ok (getDM P mi S) Q ↔ Ok (P S) fun p S1 => Ok (mi S1) fun k S2 => onO (getP p S2) fun x => onO (dgC x k) fun o => onO o fun d => Q d S2 := by
  unfold getDM
  simp only [ok_bd]
  refine ok_congr fun p S1 => ok_congr fun k S2 => ?_
  unfold getD1
  cases e : getP p S2 with
  | none => simp
  | some x =>
    cases e2 : dgC x k with
    | none => simp [e2]
    | some o => cases o <;> simp [e2]
theorem ok_inDM {neg : Bool} {P : M Pl} {mi : M D} : Ok (inDM neg mi P S) Q ↔ Ok (mi S) fun k S1 => Ok (P S1) fun p S2 => onO (getP p S2) fun x => onO (dgC x k) fun o => Q (.bl (if neg then !o.isSome else o.isSome)) S2 := by
  unfold inDM
  simp only [ok_bd]
  refine ok_congr fun p S1 => ok_congr fun k S2 => ?_
  unfold inD1
  cases e : getP k S2 with
  | none => simp
  | some x =>
    cases e2 : dgC x p with
    | none => simp [e2]
    | some o => simp [e2]
theorem ok_callK {f : F} {idx : List Nat} {ms : M (List D)} : Ok (callK f idx ms S) Q ↔ Ok (ms S) fun ds S1 => Ok (f (perm idx ds) ⟨[], S1.g⟩) fun d S2 => Q d ⟨S1.sl, S2.g⟩ := by
  unfold callK
  simp only [ok_bd, ok_inF]
/-! ### comprehensions that change nothing: any target, with a test -/
end
end Mm
end

section
/-! MmEa: a call of a name that holds a def. -/
namespace Mm
open PySem PySem.Spec PyProof.Rows L2
section
variable {X : Cx} {CX : CXT} {k i : Nat} {x : Str} {ps ks : List Str} {E : XK} {kws : List Keyword} {p pos : Pos}
theorem pe_callLN {fa : Addr} {fd : FuncData} {sp : Sp} {tk : TA} {g : List Value → List Value → List Value} {gV : List V → List V → List V} (F : FnOk X.prog X.w X.K X.mg X.base CX k fa fd ps sp) (hr : Room k X.A) (hN : X.N[i]? = some x) (hv : Vis X.env.scope x) (hk : PySem.W.keepIn X.K (.ref fa) = true) (hb : KBn X.K fd ps 0 ks g gV) (hx : Passes CX X E) (hkw : PK X kws tk)
    (hall : (backToKw pos (keywordEach kws X.env)).all (·.1.isSome) = true := by rfl) (hks : (backToKw pos (keywordEach kws X.env)).filterMap (·.1) = ks := by rfl) (hdb : (x == ("__debug__" : Str)) = false := by decide) (hcd : (x == ("__classdict__" : Str)) = false := by decide)
    (hpl : ((backTo pos (starEach [] X.env)).any (·.1) || (backToKw pos (keywordEach kws X.env)).any (·.1.isNone)) = false := by rfl) : PE X (.Call (.Name x p) [] kws pos) (fun σ H Q => σ[i]? = some (some (.ref fa)) ∧ tCallN0 ks.length sp gV E tk σ H Q) := by
  refine ⟨fun pins s σ H Q I h => ?_⟩
  obtain ⟨hs, h⟩ := h
  refine wpAny_Call_Name_kw (thn ((pe_var (pos := p) hN hv hdb hcd).run pins s σ H (fun v H1 => v = .ref fa ∧ H1 = H) I ⟨.ref fa, hs, rfl, rfl⟩) fun u s1 ⟨v, H1, I1, r1, q1⟩ => ?_)
  obtain ⟨rfl, rfl⟩ := q1
  cases r1
  refine PySem.W.callWith_KW0 (h₀ := X.base) I.ok.mod.kin hk hall ?_ hpl
  refine thn (hkw.run pos pins s1 σ _ _ I1 h) fun ws s2 ⟨zs, H2, I2, rz, l2, q2⟩ => ⟨I2.kIn, ?_⟩
  rw [hks]
  exact run_fnN (us := []) (vs := []) F hr hb hx I2 .nil rz rfl l2 q2
end
section
variable [TabCtx]
def selF (fs : List (Str × F)) (d : D) : Option F := match d with
  | .glo n => fs.lookup n
  | _ => none
def callV (fs : List (Str × F)) (i : Nat) (ms : M (List D)) : M D := bd (rd i) fun d => match selF fs d with | some f => callM f ms | none => nope
def callVK (fs : List (Str × F)) (i : Nat) (idx : List Nat) (mk : M (List D)) : M D := bd (rd i) fun d => match selF fs d with | some f => callK f idx mk | none => nope
section
variable {X : Cx} {E : XK} {k j n i : Nat} {x : Str} {ps ks : List Str} {fs : List (Str × F)} {p pos : Pos} {e : Expr} {es : List Expr} {ms : M (List D)} {kws : List Keyword} {idx : List Nat}
theorem rd_glo {c : Gm} {α : Type} {w : Wd} {S : Sg} {σ : FSt} {H : Hp} {K : α → Wd → Sg → Hp → Prop} {kk : F → M α} (sm : Sim c w S σ H) (po : Po c E (bd (rd i) (fun d => match selF fs d with | some f => kk f | none => nope) S) w S σ H K) : ∃ m f a, fs.lookup m = some f ∧ c.gl m = some a ∧ σ[i]? = some (some (.ref a)) ∧ Po c E (kk f S) w S σ H K := by
  unfold bd rd at po
  cases e : S.sl[i]? with
  | none => rw [e] at po; exact po.elim
  | some z =>
    rw [e] at po
    cases z with
    | val d =>
      obtain ⟨v, h1, h2⟩ := sm.val i d e
      have po2 : Po c E ((match selF fs d with | some f => kk f | none => nope) S) w S σ H K := po
      cases hs : selF fs d with
      | none => rw [hs] at po2; exact po2.elim
      | some f =>
        rw [hs] at po2
        cases d with
        | glo m =>
          simp only [Rep] at h2
          obtain ⟨a, h3, rfl⟩ := h2
          exact ⟨m, f, a, hs, h3, h1, po2⟩
        | _ => simp [selF] at hs
    | own z => cases z <;> exact (show False from po).elim
    | emp => exact (show False from po).elim
theorem me_callV (A : ∀ m f, fs.lookup m = some f → ∃ st ps, FnM X.prog X.w X.K X.mg X.base k m st ps f ∧ ps.length = n) (hr : Room j X.A) (hk : k ≤ j) (hx : Passes (L2.CX X.prog X.w) X E) (ha : PA X (e :: es) (TL (cg X) E ms)) (hn : ArgN n ms) (hN : X.N[i]? = some x := by rfl) (hv : Vis X.env.scope x := by first | exact Or.inl rfl | exact Or.inr (Or.inl rfl) | exact Or.inr (Or.inr rfl))
    (hdb : (x == ("__debug__" : Str)) = false := by decide) (hcd : (x == ("__classdict__" : Str)) = false := by decide) (he : starEach (e :: es) X.env = (false, eval e X.env) :: starEach es X.env := by rfl) (hpl : (backTo pos (starEach es X.env)).any (·.1) = false := by rfl) :
    PE X (.Call (.Name x p) (e :: es) [] pos) (TM (cg X) E (callV fs i ms)) := by
  refine ⟨fun pins s σ H Q I h => ?_⟩
  obtain ⟨w, S, sm, po⟩ := h
  obtain ⟨m, f, a, h1, h2, h3, po1⟩ := rd_glo (kk := fun f => callM f ms) sm po
  obtain ⟨st, ps, c, hl⟩ := A m f h1
  obtain ⟨fa, fd, F, hm, kp, b, _⟩ := c.ex
  have ea : a = fa := by
    have := gl_mg (K := X.K) h2
    rw [hm] at this
    simpa using this.symm
  subst ea
  subst hl
  exact (pe_callL (i := i) (f := a) F (hr.mono hk) hN hv kp b .nil hx ha hdb hcd he hpl).run pins s σ H Q I ⟨h3, tcall_of c.flat hn σ H Q ⟨w, S, sm, po1⟩⟩
theorem me_callVK (A : ∀ m f, fs.lookup m = some f → ∃ st, FnM X.prog X.w X.K X.mg X.base k m st ps f ∧ KwB m m st ps ks 0 idx) (hr : Room j X.A) (hk : k ≤ j) (hx : Passes (L2.CX X.prog X.w) X E) (hkw : PK X kws (TL (cg X) E ms)) (hn : ArgN n ms) (hN : X.N[i]? = some x := by rfl) (hv : Vis X.env.scope x := by first | exact Or.inl rfl | exact Or.inr (Or.inl rfl) | exact Or.inr (Or.inr rfl)) (hl : ks.length = n := by rfl) (hl2 : (idx.length == ps.length && idx.all fun i => decide (i < n)) = true := by rfl)
    (hall : (backToKw pos (keywordEach kws X.env)).all (·.1.isSome) = true := by rfl) (hks : (backToKw pos (keywordEach kws X.env)).filterMap (·.1) = ks := by rfl) (hdb : (x == ("__debug__" : Str)) = false := by decide) (hcd : (x == ("__classdict__" : Str)) = false := by decide)
    (hpl : ((backTo pos (starEach [] X.env)).any (·.1) || (backToKw pos (keywordEach kws X.env)).any (·.1.isNone)) = false := by rfl) :
    PE X (.Call (.Name x p) [] kws pos) (TM (cg X) E (callVK fs i idx ms)) := by
  refine ⟨fun pins s σ H Q I h => ?_⟩
  obtain ⟨w, S, sm, po⟩ := h
  obtain ⟨m, f, a, h1, h2, h3, po1⟩ := rd_glo (kk := fun f => callK f idx ms) sm po
  obtain ⟨st, c, kb⟩ := A m f h1
  obtain ⟨fa, fd, F, hm, kp, _, Fu⟩ := c.ex
  have ea : a = fa := by
    have := gl_mg (K := X.K) h2
    rw [hm] at this
    simpa using this.symm
  subst ea
  refine (pe_callLN (i := i) (fa := a) F (hr.mono hk) hN hv kp (kbn_of Fu kb) hx hkw hall hks hdb hcd hpl).run pins s σ H Q I ⟨h3, ?_⟩
  obtain ⟨e1, e2⟩ := Bool.and_eq_true_iff.mp hl2
  refine ⟨w, S, sm, po_args hn po1 fun ds w1 S1 H1 hd st1 s1 po2 vs r => ⟨by rw [← r.length, hd, hl], ?_⟩⟩
  refine inF_of c.flat ?_ s1 (perm_reps r idx) po2
  rw [perm_len fun i hi => by rw [hd]; exact of_decide_eq_true (List.all_eq_true.mp e2 i hi)]
  exact beq_iff_eq.mp e1
end
end
section
variable [TabCtx] {Q : D → Sg → Prop} {S : Sg} {fs : List (Str × F)} {i : Nat} {idx : List Nat} {ms : M (List D)} {m : Str} {f : F}
end
theorem look2 {P : Str → F → Prop} {n1 n2 : Str} {f1 f2 : F} (h1 : P n1 f1) (h2 : P n2 f2) : ∀ m f, ([(n1, f1), (n2, f2)] : List (Str × F)).lookup m = some f → P m f := by
  intro m f h
  simp only [List.lookup] at h
  split at h
  · rename_i e
    have e : m = n1 := by simpa using e
    subst e
    cases h; exact h1
  · split at h
    · rename_i e
      have e : m = n2 := by simpa using e
      subst e
      cases h; exact h2
    · cases h
end Mm
end

section
/-! MmEb: {a: c, b: d} of written ints. -/
namespace Mm
open PySem L2
open PyProof.Rows (envOfC Fr)
variable [TabCtx]
section
variable {X : Cx} {E : XK} {pos q1 q2 q3 q4 : Pos} {j1 j2 j3 j4 : Nat} {a b c d : Int}
theorem mc_dispI2 : PE X (.Dict [some (.Constant (.int a) j1 q1), some (.Constant (.int b) j2 q2)] [.Constant (.int c) j3 q3, .Constant (.int d) j4 q4] pos) (TC (cg X) E (ret (.dK (mergeDK [] [(.inl a, .int c), (.inl b, .int d)])))) := by
  refine PE.weak (pe_disp (pps_cons pe_int pe_int (pps_cons pe_int pe_int pps_nil)) rfl rfl (by simp) (show (2:Nat) ≤ 15 by decide)) fun σ H Q ⟨w, S, s, po⟩ p hp => ?_
  refine ⟨upd_same, [(.inl a, .int c), (.inl b, .int d)], rfl, (show (2:Nat) ≤ 15 by decide), ?_⟩
  have e : upd (upd H p (.dK [])) p (.dK (mergeK [] [(.inl a, V.int c), (.inl b, V.int d)])) = upd H p (.dK (mergeK [] [(.inl a, V.int c), (.inl b, V.int d)])) := by
    funext z
    by_cases h : z = p
    · subst h; rw [upd_same, upd_same]
    · rw [upd_ne h, upd_ne h, upd_ne h]
  rw [e]
  have hT : TabR (cg X) w ([(.inl a, .int c), (.inl b, .int d)] : List (Key × D)) ([(.inl a, .int c), (.inl b, .int d)] : List (Key × V)) := ⟨rfl, .cons (by simp only [Rep]) (.cons (by simp only [Rep]) .nil)⟩
  have hm := tab_mergeK hT (tab_nil (c := cg X) (w := w))
  exact Po.newAt s po hp ⟨_, upd_same, hm.1, hm.2⟩
end
end Mm
end

section
namespace Lw
open PySem L2 Mm
open PyProof.Rows (envOfC)
def top (i : Nat) : Stmt := PySem.Challenge.pw_waysthatcross_k39_webs_and_orders_refuse.main.body.getD i (.Pass ⟨0, 0, 0, 0⟩)
def fns : List Str := []
def clss : List Str := []

abbrev s_is_integer : Stmt := top 1
abbrev N_is_integer : List Str := ["thing"]
theorem sc_is_integer : FnScope N_is_integer ["thing"] (defScope s_is_integer) := ⟨rfl, rfl, rfl, by decide +kernel, rfl, by decide +kernel, by decide +kernel⟩
abbrev s_is_number : Stmt := top 2
abbrev N_is_number : List Str := ["thing"]
theorem sc_is_number : FnScope N_is_number ["thing"] (defScope s_is_number) := ⟨rfl, rfl, rfl, by decide +kernel, rfl, by decide +kernel, by decide +kernel⟩
abbrev s_is_list : Stmt := top 3
abbrev N_is_list : List Str := ["thing"]
theorem sc_is_list : FnScope N_is_list ["thing"] (defScope s_is_list) := ⟨rfl, rfl, rfl, by decide +kernel, rfl, by decide +kernel, by decide +kernel⟩
abbrev s_are_unlike : Stmt := top 4
abbrev N_are_unlike : List Str := ["thing", "bound", "one"]
theorem sc_are_unlike : FnScope N_are_unlike ["thing", "bound"] (defScope s_are_unlike) := ⟨rfl, rfl, rfl, by decide +kernel, rfl, by decide +kernel, by decide +kernel⟩
abbrev cs_are_unlike_0 : Scope := { kind := .function, names := [(PySem.Str.ofString ".0", .local), (PySem.Str.ofString "one", .local), (PySem.Str.ofString "is_number", .globalImplicit), (PySem.Str.ofString "bound", .free)], isGenerator := false, isCoroutine := false, more := [] }
abbrev cs_are_unlike_1 : Scope := { kind := .function, names := [(PySem.Str.ofString ".0", .local), (PySem.Str.ofString "one", .local)], isGenerator := false, isCoroutine := false, more := [] }
abbrev s_is_pair : Stmt := top 21
abbrev N_is_pair : List Str := ["thing", "bound"]
theorem sc_is_pair : FnScope N_is_pair ["thing", "bound"] (defScope s_is_pair) := ⟨rfl, rfl, rfl, by decide +kernel, rfl, by decide +kernel, by decide +kernel⟩
abbrev s_first_bad : Stmt := top 22
abbrev N_first_bad : List Str := ["things", "is_right", "index", "thing"]
theorem sc_first_bad : FnScope N_first_bad ["things", "is_right"] (defScope s_first_bad) := ⟨rfl, rfl, rfl, by decide +kernel, rfl, by decide +kernel, by decide +kernel⟩
abbrev s_check_web : Stmt := top 23
abbrev N_check_web : List Str := ["places", "roads", "begins", "ends", "wrong", "place", "thing"]
theorem sc_check_web : FnScope N_check_web ["places", "roads", "begins", "ends"] (defScope s_check_web) := ⟨rfl, rfl, rfl, by decide +kernel, rfl, by decide +kernel, by decide +kernel⟩
abbrev cs_check_web_0 : Scope := { kind := .function, names := [(PySem.Str.ofString ".0", .local), (PySem.Str.ofString "place", .local), (PySem.Str.ofString "begins", .free)], isGenerator := false, isCoroutine := false, more := [] }
abbrev s_of_roads : Stmt := top 26
abbrev N_of_roads : List Str := ["places", "roads", "begins", "ends"]
theorem sc_of_roads : FnScope N_of_roads ["places", "roads", "begins", "ends"] (defScope s_of_roads) := ⟨rfl, rfl, rfl, by decide +kernel, rfl, by decide +kernel, by decide +kernel⟩
abbrev s_of_places : Stmt := top 28
abbrev N_of_places : List Str := ["places", "roads", "begins", "ends", "rows", "row"]
theorem sc_of_places : FnScope N_of_places ["places", "roads", "begins", "ends"] (defScope s_of_places) := ⟨rfl, rfl, rfl, by decide +kernel, rfl, by decide +kernel, by decide +kernel⟩
abbrev s_of_order : Stmt := top 31
abbrev N_of_order : List Str := ["many", "pairs", "wrong", "ahead", "found", "thing"]
theorem sc_of_order : FnScope N_of_order ["many", "pairs"] (defScope s_of_order) := ⟨rfl, rfl, rfl, by decide +kernel, rfl, by decide +kernel, by decide +kernel⟩
abbrev s_of_leaps : Stmt := top 33
abbrev N_of_leaps : List Str := ["many", "rows", "wrong", "found", "number", "row", "thing"]
theorem sc_of_leaps : FnScope N_of_leaps ["many", "rows"] (defScope s_of_leaps) := ⟨rfl, rfl, rfl, by decide +kernel, rfl, by decide +kernel, by decide +kernel⟩
abbrev s_l_stream : Stmt := top 35
abbrev N_l_stream : List Str := ["_law_script"]
theorem sc_l_stream : FnScope N_l_stream ["_law_script"] (defScope s_l_stream) := ⟨rfl, rfl, rfl, by decide +kernel, rfl, by decide +kernel, by decide +kernel⟩
abbrev s_l_draw : Stmt := top 36
abbrev N_l_draw : List Str := ["_law_stream_here", "_law_many", "_law_cell", "_law_digit", "_law_mixed_here"]
theorem sc_l_draw : FnScope N_l_draw ["_law_stream_here", "_law_many"] (defScope s_l_draw) := ⟨rfl, rfl, rfl, by decide +kernel, rfl, by decide +kernel, by decide +kernel⟩
abbrev s_l_mixed : Stmt := top 37
abbrev N_l_mixed : List Str := ["_law_stream_here", "_law_things", "_law_left", "_law_found", "_law_k"]
theorem sc_l_mixed : FnScope N_l_mixed ["_law_stream_here", "_law_things"] (defScope s_l_mixed) := ⟨rfl, rfl, rfl, by decide +kernel, rfl, by decide +kernel, by decide +kernel⟩
abbrev s_l_same : Stmt := top 38
abbrev N_l_same : List Str := ["_law_found", "_law_due", "_law_mine", "_law_theirs"]
theorem sc_l_same : FnScope N_l_same ["_law_found", "_law_due"] (defScope s_l_same) := ⟨rfl, rfl, rfl, by decide +kernel, rfl, by decide +kernel, by decide +kernel⟩
abbrev cs_l_same_0 : Scope := { kind := .function, names := [(PySem.Str.ofString ".0", .local), (PySem.Str.ofString "_law_mine", .local), (PySem.Str.ofString "_law_theirs", .local), (PySem.Str.ofString "_law_same", .globalImplicit)], isGenerator := false, isCoroutine := false, more := [] }
abbrev s_l_loose : Stmt := top 39
abbrev N_l_loose : List Str := ["_law_stream_here", "_law_thing", "_law_some", "_law_one"]
theorem sc_l_loose : FnScope N_l_loose ["_law_stream_here", "_law_thing"] (defScope s_l_loose) := ⟨rfl, rfl, rfl, by decide +kernel, rfl, by decide +kernel, by decide +kernel⟩
abbrev cs_l_loose_0 : Scope := { kind := .function, names := [(PySem.Str.ofString ".0", .local), (PySem.Str.ofString "_law_one", .local), (PySem.Str.ofString "_law_loose", .globalImplicit), (PySem.Str.ofString "_law_stream_here", .free)], isGenerator := false, isCoroutine := false, more := [] }
abbrev s_l_met : Stmt := top 40
abbrev N_l_met : List Str := ["_law_ask", "e"]
theorem sc_l_met : FnScope N_l_met ["_law_ask"] (defScope s_l_met) := ⟨rfl, rfl, rfl, by decide +kernel, rfl, by decide +kernel, by decide +kernel⟩
abbrev s_l_webs_right : Stmt := top 41
abbrev N_l_webs_right : List Str := ["_law_stream_here", "_law_many", "_law_streets", "_law_heads", "_law_goals", "_law_odds", "_law_at", "_law_found", "_law_ask", "_law_odd", "_law_some"]
theorem sc_l_webs_right : FnScope N_l_webs_right ["_law_stream_here", "_law_many", "_law_streets", "_law_heads", "_law_goals"] (defScope s_l_webs_right) := ⟨rfl, rfl, rfl, by decide +kernel, rfl, by decide +kernel, by decide +kernel⟩
abbrev s_l_things_right : Stmt := top 42
abbrev N_l_things_right : List Str := ["_law_stream_here", "_law_many", "_law_pairs", "_law_rows", "_law_odds", "_law_at", "_law_found", "_law_ask", "_law_odd", "_law_some"]
theorem sc_l_things_right : FnScope N_l_things_right ["_law_stream_here", "_law_many"] (defScope s_l_things_right) := ⟨rfl, rfl, rfl, by decide +kernel, rfl, by decide +kernel, by decide +kernel⟩
abbrev s_law : Stmt := top 43
abbrev N_law : List Str := ["_law_script", "_law_stream_here", "_law_turn", "_law_many", "_law_order", "_law_streets", "_law_found", "_law_one", "_law_held", "_law_k"]
theorem sc_law : FnScope N_law ["_law_script"] (defScope s_law) := ⟨rfl, rfl, rfl, by decide +kernel, rfl, by decide +kernel, by decide +kernel⟩
abbrev cs_law_0 : Scope := { kind := .function, names := [(PySem.Str.ofString ".0", .local), (PySem.Str.ofString "_law_k", .local), (PySem.Str.ofString "tuple", .globalImplicit), (PySem.Str.ofString "_law_mixed", .globalImplicit), (PySem.Str.ofString "_law_order", .free), (PySem.Str.ofString "_law_stream_here", .free)], isGenerator := false, isCoroutine := false, more := [] }
def tabXs : List Str := ["check_web", "of_order", "of_leaps", "_law_webs_right", "_law_things_right", "law"]
instance tabs : TabCtx := ⟨tabXs⟩
abbrev s_BadPlaces_init : Stmt := inClass (top 11) 0
theorem sc_BadPlaces_init : FnScope ["self", "places"] ["self", "places"] (defScope s_BadPlaces_init) := ⟨rfl, rfl, rfl, by decide +kernel, rfl, by decide +kernel, by decide +kernel⟩
abbrev s_BadRoads_init : Stmt := inClass (top 12) 0
theorem sc_BadRoads_init : FnScope ["self", "index"] ["self", "index"] (defScope s_BadRoads_init) := ⟨rfl, rfl, rfl, by decide +kernel, rfl, by decide +kernel, by decide +kernel⟩
abbrev s_BadBegins_init : Stmt := inClass (top 13) 0
theorem sc_BadBegins_init : FnScope ["self", "begins"] ["self", "begins"] (defScope s_BadBegins_init) := ⟨rfl, rfl, rfl, by decide +kernel, rfl, by decide +kernel, by decide +kernel⟩
abbrev s_BadEnds_init : Stmt := inClass (top 14) 0
theorem sc_BadEnds_init : FnScope ["self", "ends"] ["self", "ends"] (defScope s_BadEnds_init) := ⟨rfl, rfl, rfl, by decide +kernel, rfl, by decide +kernel, by decide +kernel⟩
abbrev s_BadMany_init : Stmt := inClass (top 10) 0
theorem sc_BadMany_init : FnScope ["self", "many"] ["self", "many"] (defScope s_BadMany_init) := ⟨rfl, rfl, rfl, by decide +kernel, rfl, by decide +kernel, by decide +kernel⟩
abbrev s_BadPairs_init : Stmt := inClass (top 15) 0
theorem sc_BadPairs_init : FnScope ["self", "index"] ["self", "index"] (defScope s_BadPairs_init) := ⟨rfl, rfl, rfl, by decide +kernel, rfl, by decide +kernel, by decide +kernel⟩
abbrev s_BadRows_init : Stmt := inClass (top 16) 0
theorem sc_BadRows_init : FnScope ["self", "index"] ["self", "index"] (defScope s_BadRows_init) := ⟨rfl, rfl, rfl, by decide +kernel, rfl, by decide +kernel, by decide +kernel⟩
abbrev Bs_l_met : List Str := ["BadPlaces", "BadRoads", "BadBegins", "BadEnds", "BadMany", "BadPairs", "BadRows"]
abbrev Kl_l_met : List Kl := [("BadPlaces", some "places", "places"), ("BadRoads", some "index", "roads"), ("BadBegins", some "begins", "begins"), ("BadEnds", some "ends", "ends"), ("BadMany", some "many", "many"), ("BadPairs", some "index", "pairs"), ("BadRows", some "index", "rows")]
/-! ### the mirrors -/
noncomputable def b_is_integer : M Fl :=
  (retM (andV (isiM fns clss (rd 0) (ret (.ty "int"))) (notV (isiM fns clss (rd 0) (ret (.ty "bool"))))))
noncomputable def m_is_integer : F := runF 1 b_is_integer
noncomputable def b_is_number : M Fl :=
  (retM (andV (callM m_is_integer (consM (rd 0) nilM)) (bop geI (rd 0) (ret (.int 0)))))
noncomputable def m_is_number : F := runF 1 b_is_number
noncomputable def b_is_list : M Fl :=
  (retM (isiM fns clss (rd 0) (tupM (consM (ret (.ty "list")) (consM (ret (.ty "tuple")) nilM)))))
noncomputable def m_is_list : F := runF 1 b_is_list
noncomputable def b_are_unlike : M Fl :=
  (seqM (ifM (orM (notM (bd (callM m_is_list (consM (rd 0) nilM)) asB)) (notM (bd (h1 (hdE (bd (lcM (bd (rd 0) itemsD) (.nm 2) [2] yesM (andV (callM m_is_number (consM (rd 2) nilM)) (bop ltI (rd 2) (rd 1)))) frzC)) allF) asB)))
  (retM (ret (.bl false)))
  (ret .nx))
  (retM (bop eqM (bd (dcM (bd (rd 0) itemsD) (.nm 2) [2] yesM (rd 2) (ret (.bl true))) lenC) (h1 (hdN 0) lenF))))
noncomputable def m_are_unlike : F := runF 3 b_are_unlike
noncomputable def b_is_pair : M Fl :=
  (retM (andV (callM m_is_list (consM (rd 0) nilM)) (andV (bop eqM (h1 (hdN 0) lenF) (ret (.int 2))) (callM m_are_unlike (consM (rd 0) (consM (rd 1) nilM))))))
noncomputable def m_is_pair : F := runF 2 b_is_pair
noncomputable def b_check_web : M Fl :=
  (seqM (ifM (notM (bd (callM m_is_number (consM (rd 0) nilM)) asB))
  (raiseM "BadPlaces" ["places"] (consM (rd 0) nilM))
  (ret .nx))
  (seqM (setM 4 (fbM m_is_list 6 (rd 1) (callM m_is_pair (consM (rd 6) (consM (rd 0) nilM)))))
  (seqM (ifM (notNT (rd 4))
  (raiseM "BadRoads" ["index"] (consM (rd 4) nilM))
  (ret .nx))
  (seqM (ifM (notM (bd (callM m_are_unlike (consM (rd 2) (consM (rd 0) nilM))) asB))
  (raiseM "BadBegins" ["begins"] (consM (rd 2) nilM))
  (ret .nx))
  (ifM (orM (notM (bd (callM m_are_unlike (consM (rd 3) (consM (rd 0) nilM))) asB)) (bd (h1 (hdE (bd (lcM (bd (rd 3) itemsD) (.nm 5) [5] yesM (inM false (rd 5) (hdN 2))) frzC)) anyF) asB))
  (raiseM "BadEnds" ["ends"] (consM (rd 3) nilM))
  (ret .nx))))))
noncomputable def m_check_web : F := runF 7 b_check_web
noncomputable def b_of_roads : M Fl :=
  (seqM (exprM (callM m_check_web (consM (rd 0) (consM (rd 1) (consM (rd 2) (consM (rd 3) nilM))))))
  nope)
noncomputable def m_of_roads : F := runF 4 b_of_roads
noncomputable def b_of_places : M Fl :=
  (seqM (exprM (callM m_check_web (consM (rd 0) (consM (rd 1) (consM (rd 2) (consM (rd 3) nilM))))))
  (seqM nope
  nope))
noncomputable def m_of_places : F := runF 6 b_of_places
noncomputable def b_of_order : M Fl :=
  (seqM (ifM (notM (bd (callM m_is_number (consM (rd 0) nilM)) asB))
  (raiseM "BadMany" ["many"] (consM (rd 0) nilM))
  (ret .nx))
  (seqM (setM 2 (fbM m_is_list 5 (rd 1) (andV (callM m_is_pair (consM (rd 5) (consM (rd 0) nilM))) (bop ltI (ixM (hdN 5) (ret (.int 0))) (ixM (hdN 5) (ret (.int 1)))))))
  (seqM (ifM (notNT (rd 2))
  (raiseM "BadPairs" ["index"] (consM (rd 2) nilM))
  (ret .nx))
  (seqM nope
  (seqM nope
  nope)))))
noncomputable def m_of_order : F := runF 6 b_of_order
noncomputable def b_of_leaps : M Fl :=
  (seqM (ifM (notM (bd (callM m_is_number (consM (rd 0) nilM)) asB))
  (raiseM "BadMany" ["many"] (consM (rd 0) nilM))
  (ret .nx))
  (seqM (setM 2 (fbM m_is_list 6 (rd 1) (callM m_are_unlike (consM (rd 6) (consM (rd 0) nilM)))))
  (seqM (ifM (notNT (rd 2))
  (raiseM "BadRows" ["index"] (consM (rd 2) nilM))
  (ret .nx))
  (seqM nope
  nope))))
noncomputable def m_of_leaps : F := runF 7 b_of_leaps
noncomputable def b_l_stream : M Fl :=
  (retM (bd (lstM (consM (bd (bd (rd 0) scrF) boxC) (consM (ret (.int 0)) (consM (ret (.int 0)) (consM (ret (.int 17)) nilM))))) boxC))
noncomputable def m_l_stream : F := runF 1 b_l_stream
noncomputable def b_l_draw : M Fl :=
  (seqM (setIxM (bop addI (ixM (hdN 0) (ret (.int 2))) (ret (.int 1))) (plN 0) (ret (.int 2)))
  (seqM (whM (andM (bopT eqM (ixM (hdN 0) (ret (.int 1))) (ret (.int 0))) (bd (eqHM true (hdE (ixM (hdN 0) (ret (.int 0)))) (hdE (bd (lstM nilM) frzC))) asB))
  (seqM (setM 2 (v1 (mutM popAtF (plE (ixM (hdN 0) (ret (.int 0)))) (consM (ret (.int 0)) nilM)) absF))
  (seqM (setIxM (bop modI (v1 (bop addI (bop addI (bop mulI (ixM (hdN 0) (ret (.int 3))) (ret (.int 8191))) (rd 2)) (ret (.int 3))) intF) (ret (.int 2147483647))) (plN 0) (ret (.int 3)))
  (setIxM (ifM (bopT geI (rd 2) (bop powI (ret (.int 10)) (ret (.int 18)))) (rd 2) (ret (.int 0))) (plN 0) (ret (.int 1))))))
  (seqM (ifM (bopT gtI (ixM (hdN 0) (ret (.int 1))) (ret (.int 0)))
  (seqM (setM 3 (bop modI (v1 (ixM (hdN 0) (ret (.int 1))) intF) (rd 1)))
  (seqM (setIxM (bop divI (ixM (hdN 0) (ret (.int 1))) (rd 1)) (plN 0) (ret (.int 1)))
  (retM (rd 3))))
  (ret .nx))
  (seqM (setM 4 (bop modI (v1 (bop powI (bop addI (bop addI (ixM (hdN 0) (ret (.int 3))) (bop mulI (ret (.int 7919)) (ixM (hdN 0) (ret (.int 2))))) (ret (.int 104729))) (ret (.int 5))) intF) (ret (.int 2147483629))))
  (retM (bop modI (bop modI (v1 (bop powI (bop addI (bop addI (bop mulI (rd 4) (ret (.int 48271))) (bop mulI (ret (.int 30011)) (ixM (hdN 0) (ret (.int 2))))) (ret (.int 29))) (ret (.int 3))) intF) (ret (.int 1000000007))) (rd 1)))))))
noncomputable def m_l_draw : F := runF 5 b_l_draw
noncomputable def b_l_mixed : M Fl :=
  (seqM (parM [2, 3] (pOwn (h1C (hdN 1) listF) (pOwn (lstM nilM) pNil)))
  (seqM (bd (bd (h1 (hdN 2) lenF) rng1) (forM (.nm 4)
  (exprM (mutM appF (plN 3) (consM (mutM popAtF (plN 2) (consM (callM m_l_draw (consM (rd 0) (consM (h1 (hdN 2) lenF) nilM))) nilM)) nilM)))))
  (retM (rdB 3))))
noncomputable def m_l_mixed : F := runF 5 b_l_mixed
noncomputable def b_l_same (rec : F) : M Fl :=
  (seqM (ifM (bd (isiM fns clss (rd 1) (tupM (consM (ret (.ty "list")) (consM (ret (.ty "tuple")) nilM)))) asB)
  (seqM (ifM (orM (bopT neM (isiM fns clss (rd 0) (ret (.ty "list"))) (isiM fns clss (rd 1) (ret (.ty "list")))) (bopT neM (isiM fns clss (rd 0) (ret (.ty "tuple"))) (isiM fns clss (rd 1) (ret (.ty "tuple")))))
  (retM (ret (.bl false)))
  (ret .nx))
  (retM (andV (bop eqM (h1 (hdN 0) lenF) (h1 (hdN 1) lenF)) (h1 (hdE (bd (lcM (bd (rd 0) fun x => bd (rd 1) fun y => zipS x y) (.tp [(.nm 2), (.nm 3)]) [2, 3] yesM (callM rec (consM (rd 2) (consM (rd 3) nilM)))) frzC)) allF))))
  (ret .nx))
  (seqM (ifM (bd (isiM fns clss (rd 1) (ret (.ty "dict"))) asB)
  (retM (andV (isiM fns clss (rd 0) (ret (.ty "dict"))) (callM rec (consM (bd (bd (plN 0) itemsE) frzC) (consM (bd (bd (plN 1) itemsE) frzC) nilM)))))
  (ret .nx))
  (seqM (ifM (orM (bd (isiM fns clss (rd 1) (ret (.ty "bool"))) asB) (bd (isiM fns clss (rd 0) (ret (.ty "bool"))) asB))
  (retM (andV (isiM fns clss (rd 1) (ret (.ty "bool"))) (andV (isiM fns clss (rd 0) (ret (.ty "bool"))) (bop eqM (rd 0) (rd 1)))))
  (ret .nx))
  (retM (andV (notV (isiM fns clss (rd 0) (tupM (consM (ret (.ty "list")) (consM (ret (.ty "tuple")) (consM (ret (.ty "dict")) nilM)))))) (bop eqM (rd 0) (rd 1)))))))
noncomputable def m_l_same : Nat → F
  | 0 => fun _ => nope
  | n + 1 => runF 4 (b_l_same (m_l_same n))
noncomputable def b_l_loose (rec : F) : M Fl :=
  (seqM (ifM (bd (isiM fns clss (rd 1) (tupM (consM (ret (.ty "list")) (consM (ret (.ty "tuple")) nilM)))) asB)
  (seqM (setM 2 (bd (lcM (bd (rd 1) itemsD) (.nm 3) [3] yesM (callM rec (consM (rd 0) (consM (rd 3) nilM)))) frzC))
  (retM (ifM (bopT eqM (callM m_l_draw (consM (rd 0) (consM (ret (.int 2)) nilM))) (ret (.int 0))) (rd 2) (h1 (hdN 2) (fun v => if v.1 = true then tupleF v else nope)))))
  (ret .nx))
  (retM (rd 1)))
noncomputable def m_l_loose : Nat → F
  | 0 => fun _ => nope
  | n + 1 => runF 4 (b_l_loose (m_l_loose n))
noncomputable def b_l_webs_right : M Fl :=
  (seqM (bd (bd (tupM (consM (ret (.glo "of_roads")) (consM (ret (.glo "of_places")) nilM))) itemsD) (forM (.nm 8)
  (seqM (bd (bd (tupM (consM (ret .non) (consM (ret (.bl true)) (consM (negM (ret (.int 1))) (consM (ret (.str "3")) (consM (bd (lstM (consM (ret (.int 3)) nilM)) frzC) (consM (bd (ret (.dK [])) boxC) nilM))))))) itemsD) (forM (.nm 9)
  (ifM (notM (bd (callM (m_l_same 60) (consM (metM Bs_l_met Kl_l_met "told" false (callV [("of_roads", m_of_roads), ("of_places", m_of_places)] 8 (consM (rd 9) (consM (ret .non) (consM (ret .non) (consM (ret .non) nilM)))))) (consM (tupM (consM (ret (.str "places")) (consM (rd 9) nilM))) nilM))) asB))
  (retM (ret (.bl false)))
  (ret .nx))))
  (seqM (setM 5 (bd (lstM (consM (ret .non) (consM (ret (.int 5)) (consM (tupM nilM) (consM (tupM (consM (ret (.int 0)) nilM)) (consM (tupM (consM (ret (.int 0)) (consM (ret (.int 0)) nilM))) (consM (tupM (consM (ret (.int 0)) (consM (rd 1) nilM))) (consM (tupM (consM (ret (.int 0)) (consM (negM (ret (.int 1))) nilM))) (consM (tupM (consM (ret (.int 0)) (consM (ret (.bl true)) nilM))) (consM (tupM (consM (ret (.int 0)) (consM (ret (.str "1")) nilM))) (consM (tupM (consM (ret (.int 0)) (consM (ret (.int 1)) (consM (ret (.int 2)) nilM)))) (consM (ret (.str "01")) (consM (bd (ret (.dK (mergeDK [] [(.inl 0, .int 1), (.inl 1, .int 0)]))) boxC) nilM))))))))))))) frzC))
  (seqM (bd (bd (bd (catC (hdN 5) (hdE (bd (lstM (consM (bd (lstM (consM (ret (.int 0)) (consM (ret .non) nilM))) frzC) (consM (tupM (consM (ret (.bl true)) (consM (ret (.int 2)) nilM))) (consM (bd (lstM (consM (ret .non) (consM (ret (.int 1)) nilM))) frzC) nilM)))) frzC))) frzC) itemsD) (forM (.nm 9)
  (seqM (setM 6 (callM m_l_draw (consM (rd 0) (consM (bop addI (h1 (hdN 2) lenF) (ret (.int 1))) nilM))))
  (seqM (setM 10 (bd (catC (hdE (bd (catC (hdE (bd (catC (hdE (slM (hdN 2) (ret none) (bd (rd 6) oint))) (hdE (bd (lstM (consM (rd 9) nilM)) frzC))) frzC)) (hdE (slM (hdN 2) (bd (rd 6) oint) (ret none)))) frzC)) (hdE (bd (lstM (consM (ret .non) nilM)) frzC))) frzC))
  (ifM (notM (bd (callM (m_l_same 60) (consM (metM Bs_l_met Kl_l_met "told" false (callV [("of_roads", m_of_roads), ("of_places", m_of_places)] 8 (consM (rd 1) (consM (callM (m_l_loose 60) (consM (rd 0) (consM (rd 10) nilM))) (consM (ret .non) (consM (ret .non) nilM)))))) (consM (tupM (consM (ret (.str "roads")) (consM (rd 6) nilM))) nilM))) asB))
  (retM (ret (.bl false)))
  (ret .nx))))))
  (seqM (bd (bd (tupM (consM (ret .non) (consM (ret (.int 5)) (consM (ret (.str "ab")) (consM (bd (ret (.dK [])) boxC) (consM (ret (.bl true)) nilM)))))) itemsD) (forM (.nm 9)
  (ifM (notM (bd (callM (m_l_same 60) (consM (metM Bs_l_met Kl_l_met "told" false (callV [("of_roads", m_of_roads), ("of_places", m_of_places)] 8 (consM (rd 1) (consM (rd 9) (consM (ret .non) (consM (ret .non) nilM)))))) (consM (tupM (consM (ret (.str "roads")) (consM (ret (.int 0)) nilM))) nilM))) asB))
  (retM (ret (.bl false)))
  (ret .nx))))
  (seqM (bd (bd (tupM (consM (ret .non) (consM (ret (.int 5)) (consM (ret (.str "0")) (consM (bd (ret (.dK [])) boxC) (consM (ret (.bl true)) (consM (bd (lstM (consM (rd 1) nilM)) frzC) (consM (bd (lstM (consM (ret (.int 0)) (consM (ret (.int 0)) nilM))) frzC) (consM (bd (lstM (consM (negM (ret (.int 1))) nilM)) frzC) (consM (bd (lstM (consM (ret (.bl true)) nilM)) frzC) (consM (bd (lstM (consM (ret (.str "0")) nilM)) frzC) (consM (bd (lstM (consM (ret .non) nilM)) frzC) (consM (bd (lstM (consM (bd (lstM (consM (ret (.int 0)) nilM)) frzC) nilM)) frzC) (consM (tupM (consM (ret (.int 0)) (consM (ret (.int 1)) (consM (ret (.int 0)) nilM)))) nilM)))))))))))))) itemsD) (forM (.nm 9)
  (seqM (setM 7 (bd (lstM (consM (metM Bs_l_met Kl_l_met "told" false (callV [("of_roads", m_of_roads), ("of_places", m_of_places)] 8 (consM (rd 1) (consM (rd 2) (consM (rd 9) (consM (ret .non) nilM)))))) nilM)) boxC))
  (seqM (exprM (mutM appF (plN 7) (consM (metM Bs_l_met Kl_l_met "told" false (callV [("of_roads", m_of_roads), ("of_places", m_of_places)] 8 (consM (rd 1) (consM (rd 2) (consM (rd 3) (consM (rd 9) nilM)))))) nilM)))
  (ifM (notM (bd (callM (m_l_same 60) (consM (rd 7) (consM (bd (lstM (consM (tupM (consM (ret (.str "begins")) (consM (rd 9) nilM))) (consM (tupM (consM (ret (.str "ends")) (consM (rd 9) nilM))) nilM))) frzC) nilM))) asB))
  (retM (ret (.bl false)))
  (ret .nx))))))
  (bd (bd (tupM (consM (rd 3) (consM (h1 (hdE (slM (hdN 3) (ret none) (bd (ret (.int 1)) oint))) (fun v => if v.1 = true then tupleF v else nope)) (consM (bd (catC (hdE (slM (hdN 3) (ret none) (bd (ret (.int 1)) oint))) (hdN 4)) frzC) (consM (bd (catC (hdN 4) (hdE (slM (hdN 3) (bd (ret (.int 1)) oint) (ret none)))) frzC) (consM (bd (catC (hdN 4) (hdE (slM (hdN 3) (ret none) (bd (ret (.int 1)) oint)))) frzC) nilM)))))) itemsD) (forM (.nm 9)
  (ifM (notM (bd (callM (m_l_same 60) (consM (metM Bs_l_met Kl_l_met "told" false (callVK [("of_roads", m_of_roads), ("of_places", m_of_places)] 8 [3, 2, 1, 0] (consM (rd 9) (consM (rd 3) (consM (rd 2) (consM (rd 1) nilM)))))) (consM (tupM (consM (ret (.str "ends")) (consM (rd 9) nilM))) nilM))) asB))
  (retM (ret (.bl false)))
  (ret .nx)))))))))))
  (retM (ret (.bl true))))
noncomputable def m_l_webs_right : F := runF 11 b_l_webs_right
noncomputable def b_l_things_right : M Fl :=
  (seqM (parM [2, 3] (pVal (bd (lstM (consM (tupM (consM (ret (.int 0)) (consM (ret (.int 1)) nilM))) (consM (bd (lstM (consM (ret (.int 0)) (consM (bop subI (rd 1) (ret (.int 1))) nilM))) frzC) nilM))) frzC) (pVal (bd (lstM (consM (bd (lstM (consM (ret (.int 0)) nilM)) frzC) (consM (bd (lstM nilM) frzC) (consM (tupM (consM (ret (.int 1)) (consM (ret (.int 0)) nilM))) nilM)))) frzC) pNil)))
  (seqM (bd (bd (tupM (consM (ret (.glo "of_order")) (consM (ret (.glo "of_leaps")) nilM))) itemsD) (forM (.nm 7)
  (bd (bd (tupM (consM (ret .non) (consM (ret (.bl true)) (consM (negM (ret (.int 1))) (consM (ret (.str "3")) (consM (bd (lstM (consM (ret (.int 3)) nilM)) frzC) (consM (bd (ret (.dK [])) boxC) nilM))))))) itemsD) (forM (.nm 8)
  (ifM (notM (bd (callM (m_l_same 60) (consM (metM Bs_l_met Kl_l_met "told" false (callV [("of_order", m_of_order), ("of_leaps", m_of_leaps)] 7 (consM (rd 8) (consM (ret .non) nilM)))) (consM (tupM (consM (ret (.str "many")) (consM (rd 8) nilM))) nilM))) asB))
  (retM (ret (.bl false)))
  (ret .nx))))))
  (seqM (setM 4 (bd (lstM (consM (ret .non) (consM (ret (.int 5)) (consM (tupM nilM) (consM (tupM (consM (ret (.int 0)) nilM)) (consM (tupM (consM (ret (.int 1)) (consM (ret (.int 0)) nilM))) (consM (tupM (consM (ret (.int 0)) (consM (ret (.int 0)) nilM))) (consM (tupM (consM (ret (.int 0)) (consM (rd 1) nilM))) (consM (tupM (consM (negM (ret (.int 1))) (consM (ret (.int 0)) nilM))) (consM (tupM (consM (ret (.int 0)) (consM (ret (.bl true)) nilM))) (consM (tupM (consM (ret (.int 0)) (consM (ret (.str "1")) nilM))) (consM (tupM (consM (ret (.int 0)) (consM (ret (.int 1)) (consM (ret (.int 2)) nilM)))) (consM (ret (.str "01")) (consM (bd (ret (.dK (mergeDK [] [(.inl 0, .int 0), (.inl 1, .int 1)]))) boxC) nilM)))))))))))))) frzC))
  (seqM (bd (bd (bd (catC (hdN 4) (hdE (bd (lstM (consM (tupM (consM (ret (.bl false)) (consM (ret (.int 2)) nilM))) (consM (bd (lstM (consM (ret .non) (consM (ret (.int 1)) nilM))) frzC) nilM))) frzC))) frzC) itemsD) (forM (.nm 8)
  (seqM (setM 5 (callM m_l_draw (consM (rd 0) (consM (bop addI (h1 (hdN 2) lenF) (ret (.int 1))) nilM))))
  (seqM (setM 9 (bd (catC (hdE (bd (catC (hdE (bd (catC (hdE (slM (hdN 2) (ret none) (bd (rd 5) oint))) (hdE (bd (lstM (consM (rd 8) nilM)) frzC))) frzC)) (hdE (slM (hdN 2) (bd (rd 5) oint) (ret none)))) frzC)) (hdE (bd (lstM (consM (ret .non) nilM)) frzC))) frzC))
  (ifM (notM (bd (callM (m_l_same 60) (consM (metM Bs_l_met Kl_l_met "told" false (callM m_of_order (consM (rd 1) (consM (rd 9) nilM)))) (consM (tupM (consM (ret (.str "pairs")) (consM (rd 5) nilM))) nilM))) asB))
  (retM (ret (.bl false)))
  (ret .nx))))))
  (seqM (bd (bd (tupM (consM (ret .non) (consM (ret (.int 5)) (consM (ret (.str "0")) (consM (bd (ret (.dK [])) boxC) (consM (ret (.bl true)) (consM (bd (lstM (consM (rd 1) nilM)) frzC) (consM (bd (lstM (consM (ret (.int 0)) (consM (ret (.int 0)) nilM))) frzC) (consM (bd (lstM (consM (negM (ret (.int 1))) nilM)) frzC) (consM (bd (lstM (consM (ret (.bl true)) nilM)) frzC) (consM (bd (lstM (consM (ret (.str "0")) nilM)) frzC) (consM (bd (lstM (consM (ret .non) nilM)) frzC) (consM (bd (lstM (consM (bd (lstM (consM (ret (.int 0)) nilM)) frzC) nilM)) frzC) (consM (tupM (consM (ret (.int 0)) (consM (ret (.int 1)) (consM (ret (.int 0)) nilM)))) nilM)))))))))))))) itemsD) (forM (.nm 8)
  (seqM (setM 5 (callM m_l_draw (consM (rd 0) (consM (bop addI (h1 (hdN 3) lenF) (ret (.int 1))) nilM))))
  (seqM (setM 9 (bd (catC (hdE (bd (catC (hdE (bd (catC (hdE (slM (hdN 3) (ret none) (bd (rd 5) oint))) (hdE (bd (lstM (consM (rd 8) nilM)) frzC))) frzC)) (hdE (slM (hdN 3) (bd (rd 5) oint) (ret none)))) frzC)) (hdE (bd (lstM (consM (ret .non) nilM)) frzC))) frzC))
  (ifM (notM (bd (callM (m_l_same 60) (consM (metM Bs_l_met Kl_l_met "told" false (callK m_of_leaps [1, 0] (consM (rd 9) (consM (rd 1) nilM)))) (consM (tupM (consM (ret (.str "rows")) (consM (rd 5) nilM))) nilM))) asB))
  (retM (ret (.bl false)))
  (ret .nx))))))
  (seqM (bd (bd (tupM (consM (ret .non) (consM (ret (.int 5)) (consM (ret (.str "ab")) (consM (bd (ret (.dK [])) boxC) (consM (ret (.bl true)) nilM)))))) itemsD) (forM (.nm 8)
  (seqM (setM 6 (bd (lstM (consM (metM Bs_l_met Kl_l_met "told" false (callK m_of_order [1, 0] (consM (rd 8) (consM (rd 1) nilM)))) nilM)) boxC))
  (seqM (exprM (mutM appF (plN 6) (consM (metM Bs_l_met Kl_l_met "told" false (callM m_of_leaps (consM (rd 1) (consM (rd 8) nilM)))) nilM)))
  (ifM (notM (bd (callM (m_l_same 60) (consM (rd 6) (consM (bd (lstM (consM (tupM (consM (ret (.str "pairs")) (consM (ret (.int 0)) nilM))) (consM (tupM (consM (ret (.str "rows")) (consM (ret (.int 0)) nilM))) nilM))) frzC) nilM))) asB))
  (retM (ret (.bl false)))
  (ret .nx))))))
  (retM (ret (.bl true)))))))))
noncomputable def m_l_things_right : F := runF 10 b_l_things_right
noncomputable def b_law : M Fl :=
  (seqM (setM 1 (callM m_l_stream (consM (rd 0) nilM)))
  (seqM (bd (bd (ret (.int 2)) rng1) (forM (.nm 2)
  (seqM (setM 3 (bop addI (ret (.int 3)) (callM m_l_draw (consM (rd 1) (consM (ret (.int 6)) nilM)))))
  (seqM (setM 4 (bd (callM m_l_mixed (consM (rd 1) (consM (bd (bd (rd 3) rngC1) frzC) nilM))) frzD))
  (seqM (setM 5 (bd (lcM (bd (callM m_l_draw (consM (rd 1) (consM (ret (.int 5)) nilM))) rng1) (.nm 9) [9] yesM (h1 (hdE (slM (hdE (bd (callM m_l_mixed (consM (rd 1) (consM (rd 4) nilM))) frzD)) (ret none) (bd (ret (.int 2)) oint))) (fun v => if v.1 = true then tupleF v else nope))) frzC))
  (ifM (orM (notM (bd (callM m_l_webs_right (consM (rd 1) (consM (rd 3) (consM (rd 5) (consM (slM (hdN 4) (ret none) (bd (ret (.int 2)) oint)) (consM (slM (hdN 4) (bd (ret (.int 2)) oint) (bd (ret (.int 3)) oint)) nilM)))))) asB)) (notM (bd (callM m_l_things_right (consM (rd 1) (consM (rd 3) nilM))) asB)))
  (retM (ret (.bl false)))
  (ret .nx)))))))
  (seqM (setM 8 (bd (lstM (consM (bd (lstM (consM (ret (.str "x")) nilM)) boxC) (consM (bd (lstM (consM (ret (.str "y")) nilM)) boxC) (consM (bd (lstM (consM (ret (.str "z")) nilM)) boxC) (consM (bd (lstM (consM (ret (.str "w")) nilM)) boxC) nilM))))) frzC))
  (seqM (setM 6 (bd (lstM (consM (metM Bs_l_met Kl_l_met "told" false (callM m_of_roads (consM (ixM (hdN 8) (ret (.int 0))) (consM (bd (lstM nilM) frzC) (consM (bd (lstM nilM) frzC) (consM (bd (lstM nilM) frzC) nilM)))))) nilM)) boxC))
  (seqM (exprM (mutM appF (plN 6) (consM (metM Bs_l_met Kl_l_met "told" false (callM m_of_places (consM (ret (.int 2)) (consM (bd (lstM nilM) frzC) (consM (ixM (hdN 8) (ret (.int 1))) (consM (bd (lstM nilM) frzC) nilM)))))) nilM)))
  (seqM (exprM (mutM appF (plN 6) (consM (metM Bs_l_met Kl_l_met "told" false (callM m_of_roads (consM (ret (.int 2)) (consM (bd (lstM nilM) frzC) (consM (bd (lstM nilM) frzC) (consM (ixM (hdN 8) (ret (.int 2))) nilM)))))) nilM)))
  (seqM (exprM (mutM appF (plN 6) (consM (metM Bs_l_met Kl_l_met "told" false (callM m_of_order (consM (ixM (hdN 8) (ret (.int 3))) (consM (bd (lstM nilM) frzC) nilM)))) nilM)))
  (seqM (bd (bd (rd 8) itemsD) (forM (.nm 7)
  (exprM (mutM appF (plN 7) (consM (ret (.str "late")) nilM)))))
  (retM (callM (m_l_same 60) (consM (rd 6) (consM (bd (lstM (consM (tupM (consM (ret (.str "places")) (consM (ixM (hdN 8) (ret (.int 0))) nilM))) (consM (tupM (consM (ret (.str "begins")) (consM (ixM (hdN 8) (ret (.int 1))) nilM))) (consM (tupM (consM (ret (.str "ends")) (consM (ixM (hdN 8) (ret (.int 2))) nilM))) (consM (tupM (consM (ret (.str "many")) (consM (ixM (hdN 8) (ret (.int 3))) nilM))) nilM))))) frzC) nilM))))))))))))
noncomputable def m_law : F := runF 10 b_law
end Lw
end

section
namespace Lw
open PySem L2 Mm
open PyProof.Rows (envOfC)
/-! ### what the top has written -/
structure Txt (K : PySem.W.Frag) (mg : Str → Option Value) : Prop where
  d_is_integer : DefIn K mg "is_integer" s_is_integer
  d_is_number : DefIn K mg "is_number" s_is_number
  d_is_list : DefIn K mg "is_list" s_is_list
  d_are_unlike : DefIn K mg "are_unlike" s_are_unlike
  d_is_pair : DefIn K mg "is_pair" s_is_pair
  d_first_bad : DefIn K mg "first_bad" s_first_bad
  d_check_web : DefIn K mg "check_web" s_check_web
  d_of_roads : DefIn K mg "of_roads" s_of_roads
  d_of_places : DefIn K mg "of_places" s_of_places
  d_of_order : DefIn K mg "of_order" s_of_order
  d_of_leaps : DefIn K mg "of_leaps" s_of_leaps
  d_l_stream : DefIn K mg "_law_stream" s_l_stream
  d_l_draw : DefIn K mg "_law_draw" s_l_draw
  d_l_mixed : DefIn K mg "_law_mixed" s_l_mixed
  d_l_same : DefIn K mg "_law_same" s_l_same
  d_l_loose : DefIn K mg "_law_loose" s_l_loose
  d_l_met : DefIn K mg "_law_met" s_l_met
  d_l_webs_right : DefIn K mg "_law_webs_right" s_l_webs_right
  d_l_things_right : DefIn K mg "_law_things_right" s_l_things_right
  d_law : DefIn K mg "law" s_law
  l_check_web : LamIn K mg "check_web" s_check_web
  l_of_order : LamIn K mg "of_order" s_of_order
  l_of_leaps : LamIn K mg "of_leaps" s_of_leaps
  l_l_webs_right : LamIn K mg "_law_webs_right" s_l_webs_right
  l_l_things_right : LamIn K mg "_law_things_right" s_l_things_right
  l_law : LamIn K mg "law" s_law
  tt : TabsOk K
  x_BadPlaces : ExIn K mg "BadPlaces" "BadPlaces.__init__" s_BadPlaces_init ["places"]
  x_BadRoads : ExIn K mg "BadRoads" "BadRoads.__init__" s_BadRoads_init ["index"]
  x_BadBegins : ExIn K mg "BadBegins" "BadBegins.__init__" s_BadBegins_init ["begins"]
  x_BadEnds : ExIn K mg "BadEnds" "BadEnds.__init__" s_BadEnds_init ["ends"]
  x_BadMany : ExIn K mg "BadMany" "BadMany.__init__" s_BadMany_init ["many"]
  x_BadPairs : ExIn K mg "BadPairs" "BadPairs.__init__" s_BadPairs_init ["index"]
  x_BadRows : ExIn K mg "BadRows" "BadRows.__init__" s_BadRows_init ["index"]
  xm_l_met : XmAll K mg Kl_l_met Bs_l_met
  n_abs : mg "abs" = none
  n_all : mg "all" = none
  n_any : mg "any" = none
  n_bool : mg "bool" = none
  n_dict : mg "dict" = none
  n_enumerate : mg "enumerate" = none
  n_int : mg "int" = none
  n_isinstance : mg "isinstance" = none
  n_len : mg "len" = none
  n_list : mg "list" = none
  n_range : mg "range" = none
  n_tuple : mg "tuple" = none
  n_zip : mg "zip" = none
  kit : KitOk K mg fns clss
  g_of_leaps : ∃ a, mg "of_leaps" = some (.ref a)
  g_of_order : ∃ a, mg "of_order" = some (.ref a)
  g_of_places : ∃ a, mg "of_places" = some (.ref a)
  g_of_roads : ∃ a, mg "of_roads" = some (.ref a)
/-! ### the defs -/
section
variable {P : Program} {w : World} {K : PySem.W.Frag} {mg : Str → Option Value} {base : Heap}
theorem okx_BadPlaces (T : Txt K mg) : ExM P w K mg base 1 "BadPlaces" ["places"] := exM_1 (k := 0) T.x_BadPlaces (fun Fu => (Fu.binds (ps := ["self", "places"]) fun _ _ _ _ _ _ us hl => match us, hl with | [_, _], _ => rfl)) rfl sc_BadPlaces_init (.inl rfl) (.inl rfl)
theorem okx_BadRoads (T : Txt K mg) : ExM P w K mg base 1 "BadRoads" ["index"] := exM_1 (k := 0) T.x_BadRoads (fun Fu => (Fu.binds (ps := ["self", "index"]) fun _ _ _ _ _ _ us hl => match us, hl with | [_, _], _ => rfl)) rfl sc_BadRoads_init (.inl rfl) (.inl rfl)
theorem okx_BadBegins (T : Txt K mg) : ExM P w K mg base 1 "BadBegins" ["begins"] := exM_1 (k := 0) T.x_BadBegins (fun Fu => (Fu.binds (ps := ["self", "begins"]) fun _ _ _ _ _ _ us hl => match us, hl with | [_, _], _ => rfl)) rfl sc_BadBegins_init (.inl rfl) (.inl rfl)
theorem okx_BadEnds (T : Txt K mg) : ExM P w K mg base 1 "BadEnds" ["ends"] := exM_1 (k := 0) T.x_BadEnds (fun Fu => (Fu.binds (ps := ["self", "ends"]) fun _ _ _ _ _ _ us hl => match us, hl with | [_, _], _ => rfl)) rfl sc_BadEnds_init (.inl rfl) (.inl rfl)
theorem okx_BadMany (T : Txt K mg) : ExM P w K mg base 1 "BadMany" ["many"] := exM_1 (k := 0) T.x_BadMany (fun Fu => (Fu.binds (ps := ["self", "many"]) fun _ _ _ _ _ _ us hl => match us, hl with | [_, _], _ => rfl)) rfl sc_BadMany_init (.inl rfl) (.inl rfl)
theorem okx_BadPairs (T : Txt K mg) : ExM P w K mg base 1 "BadPairs" ["index"] := exM_1 (k := 0) T.x_BadPairs (fun Fu => (Fu.binds (ps := ["self", "index"]) fun _ _ _ _ _ _ us hl => match us, hl with | [_, _], _ => rfl)) rfl sc_BadPairs_init (.inl rfl) (.inl rfl)
theorem okx_BadRows (T : Txt K mg) : ExM P w K mg base 1 "BadRows" ["index"] := exM_1 (k := 0) T.x_BadRows (fun Fu => (Fu.binds (ps := ["self", "index"]) fun _ _ _ _ _ _ us hl => match us, hl with | [_, _], _ => rfl)) rfl sc_BadRows_init (.inl rfl) (.inl rfl)
theorem okm_l_met (T : Txt K mg) : MetM K mg "_law_met" "told" false Kl_l_met Bs_l_met := by
  obtain ⟨c0, _, _, m0, _, _, _, _, x0, f0⟩ := T.x_BadPlaces.ex
  obtain ⟨c1, _, _, m1, _, _, _, _, x1, f1⟩ := T.x_BadRoads.ex
  obtain ⟨c2, _, _, m2, _, _, _, _, x2, f2⟩ := T.x_BadBegins.ex
  obtain ⟨c3, _, _, m3, _, _, _, _, x3, f3⟩ := T.x_BadEnds.ex
  obtain ⟨c4, _, _, m4, _, _, _, _, x4, f4⟩ := T.x_BadMany.ex
  obtain ⟨c5, _, _, m5, _, _, _, _, x5, f5⟩ := T.x_BadPairs.ex
  obtain ⟨c6, _, _, m6, _, _, _, _, x6, f6⟩ := T.x_BadRows.ex
  exact metM_of T.d_l_met (fun Fu => (Fu.binds (ps := ["_law_ask"]) fun _ _ _ _ _ _ us hl => match us, hl with | [_], _ => rfl)) sc_l_met rfl (.inl rfl) (fun X g cdv qq e1 e2 => by
    subst e1
    subst e2
    exact met_b (i := 1) (HdF.fld m0 x0 (f0 "places" (by decide)) (HdF.fld m1 x1 (f1 "index" (by decide)) (HdF.fld m2 x2 (f2 "begins" (by decide)) (HdF.fld m3 x3 (f3 "ends" (by decide)) (HdF.fld m4 x4 (f4 "many" (by decide)) (HdF.fld m5 x5 (f5 "index" (by decide)) (HdF.fld m6 x6 (f6 "index" (by decide)) HdF.nil))))))) sc_l_met.nd rfl rfl (by decide +kernel) (by decide) (by decide) (fun _ => rfl)) T.xm_l_met
theorem ok_is_integer (T : Txt K mg) : FnM P w K mg base 1 "is_integer" s_is_integer ["thing"] m_is_integer := by
  obtain ⟨fa, fd, hm, Fu⟩ := T.d_is_integer.ex
  exact fnM (k := 0) Fu hm (Fu.binds (ps := ["thing"]) fun _ _ _ _ _ _ us hl => match us, hl with | [_], _ => rfl) sc_is_integer fun cdv A outer s H E hr =>
    (mss_one (ms_ret (me_and (me_isi T.kit (by rfl) T.n_isinstance (me_var 0) (me_ty (by rfl) T.n_int (by rfl))) (me_one (me_not (me_isi T.kit (by rfl) T.n_isinstance (me_var 0) (me_ty (by rfl) T.n_bool (by rfl))))))))
theorem ok_is_number (T : Txt K mg) (c_is_integer : FnM P w K mg base 1 "is_integer" s_is_integer ["thing"] m_is_integer) : FnM P w K mg base 2 "is_number" s_is_number ["thing"] m_is_number := by
  obtain ⟨fa, fd, hm, Fu⟩ := T.d_is_number.ex
  exact fnM (k := 1) Fu hm (Fu.binds (ps := ["thing"]) fun _ _ _ _ _ _ us hl => match us, hl with | [_], _ => rfl) sc_is_number fun cdv A outer s H E hr =>
    (mss_one (ms_ret (me_and (me_call c_is_integer hr (by decide) passD (by rfl) (ml_cons (me_var 0) ml_nil) (argN_cons argN_nil)) (me_one (me_ge (me_var 0) me_int)))))
theorem ok_is_list (T : Txt K mg) : FnM P w K mg base 1 "is_list" s_is_list ["thing"] m_is_list := by
  obtain ⟨fa, fd, hm, Fu⟩ := T.d_is_list.ex
  exact fnM (k := 0) Fu hm (Fu.binds (ps := ["thing"]) fun _ _ _ _ _ _ us hl => match us, hl with | [_], _ => rfl) sc_is_list fun cdv A outer s H E hr =>
    (mss_one (ms_ret (me_isi T.kit (by rfl) T.n_isinstance (me_var 0) (me_tup (ml_cons (me_ty (by rfl) T.n_list (by rfl)) (ml_cons (me_ty (by rfl) T.n_tuple (by rfl)) ml_nil))))))
theorem ok_are_unlike (T : Txt K mg) (c_is_list : FnM P w K mg base 1 "is_list" s_is_list ["thing"] m_is_list) (c_is_number : FnM P w K mg base 2 "is_number" s_is_number ["thing"] m_is_number) : FnM P w K mg base 3 "are_unlike" s_are_unlike ["thing", "bound"] m_are_unlike := by
  obtain ⟨fa, fd, hm, Fu⟩ := T.d_are_unlike.ex
  exact fnM (k := 2) Fu hm (Fu.binds (ps := ["thing", "bound"]) fun _ _ _ _ _ _ us hl => match us, hl with | [_, _], _ => rfl) sc_are_unlike fun cdv A outer s H E hr =>
    (mss_cons (ms_if (mt_w (mw_or (mt_not (mt_val (me_call c_is_list hr (by decide) passD (by rfl) (ml_cons (me_var 0) ml_nil) (argN_cons argN_nil)))) (mw_or1 (mt_not (mt_val (me_all (by rfl) (by rfl) T.n_all (mh_of (me_frz (by refine mc_lc (own := [("one", 2)]) ?_ ?_ ?_ ?_ ?_ ?_ ?_; exact rfl; exact sc_are_unlike.nd; exact (mi_seq (me_var 0)); exact (blkOk_by (N := N_are_unlike) (sc := (defScope s_are_unlike)) (scope := cs_are_unlike_0) (own := [("one", 2)]) (by decide +kernel)); exact (fun _ _ _ _ _ => (mg_nm 2 (by exact sc_are_unlike.nd))); exact (fun _ _ _ _ _ => mts_nil); exact (fun _ _ _ _ _ => (me_and (me_call c_is_number hr (by decide) passL (by rfl) (ml_cons (me_var 2) ml_nil) (argN_cons argN_nil)) (me_one (me_lt (me_var 2) (me_var 1))))))))))))))
    (mss_one (ms_ret me_bl))
    mss_nil)
    (mss_one (ms_ret (me_eq hr (me_lenC (by rfl) T.n_len (by refine mc_dc (own := [("one", 2)]) ?_ ?_ ?_ ?_ ?_ ?_ ?_ ?_; exact rfl; exact sc_are_unlike.nd; exact (mi_seq (me_var 0)); exact (blkOk_by (N := N_are_unlike) (sc := (defScope s_are_unlike)) (scope := cs_are_unlike_1) (own := [("one", 2)]) (by decide +kernel)); exact (fun _ _ _ _ _ => (mg_nm 2 (by exact sc_are_unlike.nd))); exact (fun _ _ _ _ _ => mts_nil); exact (fun _ _ _ _ _ => (me_var 2)); exact (fun _ _ _ _ _ => me_bl))) (me_len (by rfl) T.n_len (mh_var 0))))))
theorem ok_is_pair (T : Txt K mg) (c_is_list : FnM P w K mg base 1 "is_list" s_is_list ["thing"] m_is_list) (c_are_unlike : FnM P w K mg base 3 "are_unlike" s_are_unlike ["thing", "bound"] m_are_unlike) : FnM P w K mg base 4 "is_pair" s_is_pair ["thing", "bound"] m_is_pair := by
  obtain ⟨fa, fd, hm, Fu⟩ := T.d_is_pair.ex
  exact fnM (k := 3) Fu hm (Fu.binds (ps := ["thing", "bound"]) fun _ _ _ _ _ _ us hl => match us, hl with | [_, _], _ => rfl) sc_is_pair fun cdv A outer s H E hr =>
    (mss_one (ms_ret (me_and (me_call c_is_list hr (by decide) passD (by rfl) (ml_cons (me_var 0) ml_nil) (argN_cons argN_nil)) (me_and (me_eq hr (me_len (by rfl) T.n_len (mh_var 0)) me_int) (me_one (me_call c_are_unlike hr (by decide) passD (by rfl) (ml_cons (me_var 0) (ml_cons (me_var 1) ml_nil)) (argN_cons (argN_cons argN_nil))))))))
theorem ok_check_web (T : Txt K mg) (c_is_number : FnM P w K mg base 2 "is_number" s_is_number ["thing"] m_is_number) (c_is_list : FnM P w K mg base 1 "is_list" s_is_list ["thing"] m_is_list) (c_is_pair : FnM P w K mg base 4 "is_pair" s_is_pair ["thing", "bound"] m_is_pair) (c_are_unlike : FnM P w K mg base 3 "are_unlike" s_are_unlike ["thing", "bound"] m_are_unlike) (x_BadPlaces : ExM P w K mg base 1 "BadPlaces" ["places"]) (x_BadRoads : ExM P w K mg base 1 "BadRoads" ["index"]) (x_BadBegins : ExM P w K mg base 1 "BadBegins" ["begins"]) (x_BadEnds : ExM P w K mg base 1 "BadEnds" ["ends"]) (TB : TabsB K mg base) (hu : TabsOk K) : FnM P w K mg base 7 "check_web" s_check_web ["places", "roads", "begins", "ends"] m_check_web := by
  exact fnML (k := 6) T.l_check_web (show ("check_web" : Str) ∈ tabXs from by decide) TB (fun Fu => (Fu.binds (ps := ["places", "roads", "begins", "ends"]) fun _ _ _ _ _ _ us hl => match us, hl with | [_, _, _, _], _ => rfl)) sc_check_web fun fa cdv hc A outer s H E hr =>
    (mss_cons (ms_if (mt_not (mt_val (me_call c_is_number hr (by decide) passD (by rfl) (ml_cons (me_var 0) ml_nil) (argN_cons argN_nil))))
    (mss_one (ms_raise x_BadPlaces hr (by decide) rfl takesD (by rfl) (ml_cons (me_var 0) ml_nil) (argN_cons argN_nil)))
    mss_nil)
    (mss_cons (ms_set (i := 4) sc_check_web.nd rfl (Or.inl rfl) (by refine me_fb (k := 4) c_is_list T.d_first_bad (fun Fu => Fu.binds (ps := ["things", "is_right"]) fun _ _ _ _ _ _ us hl => match us, hl with | [_, _], _ => rfl) sc_first_bad rfl (.inl rfl) (fun F h1 h2 h3 g cdv => gives_fb (k := 4) (x := "things") (a := "is_right") (ix := "index") (th := "thing") (nm := "is_list") F (by decide) h1 h2 h3 spM_mono (by decide) rfl rfl T.n_enumerate (.inl rfl) (.inl rfl) (.inl rfl) rfl rfl (by decide) (by decide) (by decide) (by decide) (by decide) (by decide) (by decide)) (by rfl) hr (by decide) hc (show ("check_web" : Str) ∈ tabXs from by decide) hu (show lamPB (defScope s_check_web) _ "thing" = true from by decide +kernel) passD rfl sc_check_web.nd (me_var 1) ?_; exact fun A outer s H f c' hr => (me_call c_is_pair hr (by decide) passLam (by rfl) (ml_cons (me_var 6) (ml_cons (me_var 0) ml_nil)) (argN_cons (argN_cons argN_nil)))))
    (mss_cons (ms_if (mt_notN (me_var 4))
    (mss_one (ms_raise x_BadRoads hr (by decide) rfl takesD (by rfl) (ml_cons (me_var 4) ml_nil) (argN_cons argN_nil)))
    mss_nil)
    (mss_cons (ms_if (mt_not (mt_val (me_call c_are_unlike hr (by decide) passD (by rfl) (ml_cons (me_var 2) (ml_cons (me_var 0) ml_nil)) (argN_cons (argN_cons argN_nil)))))
    (mss_one (ms_raise x_BadBegins hr (by decide) rfl takesD (by rfl) (ml_cons (me_var 2) ml_nil) (argN_cons argN_nil)))
    mss_nil)
    (mss_one (ms_if (mt_w (mw_or (mt_not (mt_val (me_call c_are_unlike hr (by decide) passD (by rfl) (ml_cons (me_var 3) (ml_cons (me_var 0) ml_nil)) (argN_cons (argN_cons argN_nil))))) (mw_or1 (mt_val (me_any (by rfl) (by rfl) T.n_any (mh_of (me_frz (by refine mc_lc (own := [("place", 5)]) ?_ ?_ ?_ ?_ ?_ ?_ ?_; exact rfl; exact sc_check_web.nd; exact (mi_seq (me_var 3)); exact (blkOk_by (N := N_check_web) (sc := (defScope s_check_web)) (scope := cs_check_web_0) (own := [("place", 5)]) (by decide +kernel)); exact (fun _ _ _ _ _ => (mg_nm 5 (by exact sc_check_web.nd))); exact (fun _ _ _ _ _ => mts_nil); exact (fun _ _ _ _ _ => (me_in hr (me_var 5) (mh_var 2)))))))))))
    (mss_one (ms_raise x_BadEnds hr (by decide) rfl takesD (by rfl) (ml_cons (me_var 3) ml_nil) (argN_cons argN_nil)))
    mss_nil))))))
theorem ok_of_roads (T : Txt K mg) (c_check_web : FnM P w K mg base 7 "check_web" s_check_web ["places", "roads", "begins", "ends"] m_check_web) : FnM P w K mg base 8 "of_roads" s_of_roads ["places", "roads", "begins", "ends"] m_of_roads := by
  obtain ⟨fa, fd, hm, Fu⟩ := T.d_of_roads.ex
  exact fnM (k := 7) Fu hm (Fu.binds (ps := ["places", "roads", "begins", "ends"]) fun _ _ _ _ _ _ us hl => match us, hl with | [_, _, _, _], _ => rfl) sc_of_roads fun cdv A outer s H E hr =>
    (mss_cons (ms_expr (me_call c_check_web hr (by decide) passD (by rfl) (ml_cons (me_var 0) (ml_cons (me_var 1) (ml_cons (me_var 2) (ml_cons (me_var 3) ml_nil)))) (argN_cons (argN_cons (argN_cons (argN_cons argN_nil))))))
    (mss_one ms_never))
theorem ok_of_places (T : Txt K mg) (c_check_web : FnM P w K mg base 7 "check_web" s_check_web ["places", "roads", "begins", "ends"] m_check_web) : FnM P w K mg base 8 "of_places" s_of_places ["places", "roads", "begins", "ends"] m_of_places := by
  obtain ⟨fa, fd, hm, Fu⟩ := T.d_of_places.ex
  exact fnM (k := 7) Fu hm (Fu.binds (ps := ["places", "roads", "begins", "ends"]) fun _ _ _ _ _ _ us hl => match us, hl with | [_, _, _, _], _ => rfl) sc_of_places fun cdv A outer s H E hr =>
    (mss_cons (ms_expr (me_call c_check_web hr (by decide) passD (by rfl) (ml_cons (me_var 0) (ml_cons (me_var 1) (ml_cons (me_var 2) (ml_cons (me_var 3) ml_nil)))) (argN_cons (argN_cons (argN_cons (argN_cons argN_nil))))))
    (mss_cons ms_never
    (mss_one ms_never)))
theorem ok_of_order (T : Txt K mg) (c_is_number : FnM P w K mg base 2 "is_number" s_is_number ["thing"] m_is_number) (c_is_list : FnM P w K mg base 1 "is_list" s_is_list ["thing"] m_is_list) (c_is_pair : FnM P w K mg base 4 "is_pair" s_is_pair ["thing", "bound"] m_is_pair) (x_BadMany : ExM P w K mg base 1 "BadMany" ["many"]) (x_BadPairs : ExM P w K mg base 1 "BadPairs" ["index"]) (TB : TabsB K mg base) (hu : TabsOk K) : FnM P w K mg base 7 "of_order" s_of_order ["many", "pairs"] m_of_order := by
  exact fnML (k := 6) T.l_of_order (show ("of_order" : Str) ∈ tabXs from by decide) TB (fun Fu => (Fu.binds (ps := ["many", "pairs"]) fun _ _ _ _ _ _ us hl => match us, hl with | [_, _], _ => rfl)) sc_of_order fun fa cdv hc A outer s H E hr =>
    (mss_cons (ms_if (mt_not (mt_val (me_call c_is_number hr (by decide) passD (by rfl) (ml_cons (me_var 0) ml_nil) (argN_cons argN_nil))))
    (mss_one (ms_raise x_BadMany hr (by decide) rfl takesD (by rfl) (ml_cons (me_var 0) ml_nil) (argN_cons argN_nil)))
    mss_nil)
    (mss_cons (ms_set (i := 2) sc_of_order.nd rfl (Or.inl rfl) (by refine me_fb (k := 4) c_is_list T.d_first_bad (fun Fu => Fu.binds (ps := ["things", "is_right"]) fun _ _ _ _ _ _ us hl => match us, hl with | [_, _], _ => rfl) sc_first_bad rfl (.inl rfl) (fun F h1 h2 h3 g cdv => gives_fb (k := 4) (x := "things") (a := "is_right") (ix := "index") (th := "thing") (nm := "is_list") F (by decide) h1 h2 h3 spM_mono (by decide) rfl rfl T.n_enumerate (.inl rfl) (.inl rfl) (.inl rfl) rfl rfl (by decide) (by decide) (by decide) (by decide) (by decide) (by decide) (by decide)) (by rfl) hr (by decide) hc (show ("of_order" : Str) ∈ tabXs from by decide) hu (show lamPB (defScope s_of_order) _ "thing" = true from by decide +kernel) passD rfl sc_of_order.nd (me_var 1) ?_; exact fun A outer s H f c' hr => (me_and (me_call c_is_pair hr (by decide) passLam (by rfl) (ml_cons (me_var 5) (ml_cons (me_var 0) ml_nil)) (argN_cons (argN_cons argN_nil))) (me_one (me_lt (me_ix (mh_var 5) me_int) (me_ix (mh_var 5) me_int))))))
    (mss_cons (ms_if (mt_notN (me_var 2))
    (mss_one (ms_raise x_BadPairs hr (by decide) rfl takesD (by rfl) (ml_cons (me_var 2) ml_nil) (argN_cons argN_nil)))
    mss_nil)
    (mss_cons ms_never
    (mss_cons ms_never
    (mss_one ms_never))))))
theorem ok_of_leaps (T : Txt K mg) (c_is_number : FnM P w K mg base 2 "is_number" s_is_number ["thing"] m_is_number) (c_is_list : FnM P w K mg base 1 "is_list" s_is_list ["thing"] m_is_list) (c_are_unlike : FnM P w K mg base 3 "are_unlike" s_are_unlike ["thing", "bound"] m_are_unlike) (x_BadMany : ExM P w K mg base 1 "BadMany" ["many"]) (x_BadRows : ExM P w K mg base 1 "BadRows" ["index"]) (TB : TabsB K mg base) (hu : TabsOk K) : FnM P w K mg base 6 "of_leaps" s_of_leaps ["many", "rows"] m_of_leaps := by
  exact fnML (k := 5) T.l_of_leaps (show ("of_leaps" : Str) ∈ tabXs from by decide) TB (fun Fu => (Fu.binds (ps := ["many", "rows"]) fun _ _ _ _ _ _ us hl => match us, hl with | [_, _], _ => rfl)) sc_of_leaps fun fa cdv hc A outer s H E hr =>
    (mss_cons (ms_if (mt_not (mt_val (me_call c_is_number hr (by decide) passD (by rfl) (ml_cons (me_var 0) ml_nil) (argN_cons argN_nil))))
    (mss_one (ms_raise x_BadMany hr (by decide) rfl takesD (by rfl) (ml_cons (me_var 0) ml_nil) (argN_cons argN_nil)))
    mss_nil)
    (mss_cons (ms_set (i := 2) sc_of_leaps.nd rfl (Or.inl rfl) (by refine me_fb (k := 3) c_is_list T.d_first_bad (fun Fu => Fu.binds (ps := ["things", "is_right"]) fun _ _ _ _ _ _ us hl => match us, hl with | [_, _], _ => rfl) sc_first_bad rfl (.inl rfl) (fun F h1 h2 h3 g cdv => gives_fb (k := 3) (x := "things") (a := "is_right") (ix := "index") (th := "thing") (nm := "is_list") F (by decide) h1 h2 h3 spM_mono (by decide) rfl rfl T.n_enumerate (.inl rfl) (.inl rfl) (.inl rfl) rfl rfl (by decide) (by decide) (by decide) (by decide) (by decide) (by decide) (by decide)) (by rfl) hr (by decide) hc (show ("of_leaps" : Str) ∈ tabXs from by decide) hu (show lamPB (defScope s_of_leaps) _ "thing" = true from by decide +kernel) passD rfl sc_of_leaps.nd (me_var 1) ?_; exact fun A outer s H f c' hr => (me_call c_are_unlike hr (by decide) passLam (by rfl) (ml_cons (me_var 6) (ml_cons (me_var 0) ml_nil)) (argN_cons (argN_cons argN_nil)))))
    (mss_cons (ms_if (mt_notN (me_var 2))
    (mss_one (ms_raise x_BadRows hr (by decide) rfl takesD (by rfl) (ml_cons (me_var 2) ml_nil) (argN_cons argN_nil)))
    mss_nil)
    (mss_cons ms_never
    (mss_one ms_never)))))
theorem ok_l_stream (T : Txt K mg) : FnM P w K mg base 1 "_law_stream" s_l_stream ["_law_script"] m_l_stream := by
  obtain ⟨fa, fd, hm, Fu⟩ := T.d_l_stream.ex
  exact fnM (k := 0) Fu hm (Fu.binds (ps := ["_law_script"]) fun _ _ _ _ _ _ us hl => match us, hl with | [_], _ => rfl) sc_l_stream fun cdv A outer s H E hr =>
    (mss_one (ms_ret (me_box (mc_lst (ml_cons (me_box (mc_scr (by rfl) T.n_list (me_var 0))) (ml_cons me_int (ml_cons me_int (ml_cons me_int ml_nil))))))))
theorem ok_l_draw (T : Txt K mg) : FnM P w K mg base 1 "_law_draw" s_l_draw ["_law_stream_here", "_law_many"] m_l_draw := by
  obtain ⟨fa, fd, hm, Fu⟩ := T.d_l_draw.ex
  exact fnM (k := 0) Fu hm (Fu.binds (ps := ["_law_stream_here", "_law_many"]) fun _ _ _ _ _ _ us hl => match us, hl with | [_, _], _ => rfl) sc_l_draw fun cdv A outer s H E hr =>
    (mss_cons (ms_setIx hr (me_add (me_ix (mh_var 0) me_int) me_int) (mp_var 0) me_int)
    (mss_cons (ms_while ownsD (mt_w (mw_and (mt_eq hr (me_ix (mh_var 0) me_int) me_int) (mw_and1 (mt_neH hr (mh_of (me_ix (mh_var 0) me_int)) (mh_of (me_frz (mc_lst ml_nil)))))))
    (mss_cons (ms_set (i := 2) sc_l_draw.nd rfl (Or.inl rfl) (me_abs (by rfl) T.n_abs (me_popAt (mp_of (me_ix (mh_var 0) me_int)) me_int)))
    (mss_cons (ms_setIx hr (me_mod (me_intOf (by rfl) T.n_int (me_add (me_add (me_mul (me_ix (mh_var 0) me_int) me_int) (me_var 2)) me_int)) me_int) (mp_var 0) me_int)
    (mss_one (ms_setIx hr (me_if (mt_ge (me_var 2) (me_pow me_int me_int)) (me_var 2) me_int) (mp_var 0) me_int)))))
    (mss_cons (ms_if (mt_gt (me_ix (mh_var 0) me_int) me_int)
    (mss_cons (ms_set (i := 3) sc_l_draw.nd rfl (Or.inl rfl) (me_mod (me_intOf (by rfl) T.n_int (me_ix (mh_var 0) me_int)) (me_var 1)))
    (mss_cons (ms_setIx hr (me_div (me_ix (mh_var 0) me_int) (me_var 1)) (mp_var 0) me_int)
    (mss_one (ms_ret (me_var 3)))))
    mss_nil)
    (mss_cons (ms_set (i := 4) sc_l_draw.nd rfl (Or.inl rfl) (me_mod (me_intOf (by rfl) T.n_int (me_pow (me_add (me_add (me_ix (mh_var 0) me_int) (me_mul me_int (me_ix (mh_var 0) me_int))) me_int) me_int)) me_int))
    (mss_one (ms_ret (me_mod (me_mod (me_intOf (by rfl) T.n_int (me_pow (me_add (me_add (me_mul (me_var 4) me_int) (me_mul me_int (me_ix (mh_var 0) me_int))) me_int) me_int)) me_int) (me_var 1))))))))
theorem ok_l_mixed (T : Txt K mg) (c_l_draw : FnM P w K mg base 1 "_law_draw" s_l_draw ["_law_stream_here", "_law_many"] m_l_draw) : FnM P w K mg base 2 "_law_mixed" s_l_mixed ["_law_stream_here", "_law_things"] m_l_mixed := by
  obtain ⟨fa, fd, hm, Fu⟩ := T.d_l_mixed.ex
  exact fnM (k := 1) Fu hm (Fu.binds (ps := ["_law_stream_here", "_law_things"]) fun _ _ _ _ _ _ us hl => match us, hl with | [_, _], _ => rfl) sc_l_mixed fun cdv A outer s H E hr =>
    (mss_cons (ms_par (i := 2) (j := 3) rfl sc_l_mixed.nd rfl rfl (by decide) rfl rfl (mp_own (mc_list (by rfl) T.n_list (mh_var 1)) (mp_own (mc_lst ml_nil) mp_nil)) (by first | rfl | kernel_rfl))
    (mss_cons (ms_for ownsD rfl (mi_range1 (by rfl) T.n_range (me_len (by rfl) T.n_len (mh_var 2))) (mg_nm 4 (by exact sc_l_mixed.nd))
    (mss_one (ms_expr (me_append (mp_var 3) (me_popAt (mp_var 2) (me_call c_l_draw hr (by decide) passD (by rfl) (ml_cons (me_var 0) (ml_cons (me_len (by rfl) T.n_len (mh_var 2)) ml_nil)) (argN_cons (argN_cons argN_nil))))))))
    (mss_one (ms_ret (me_varB 3)))))
theorem ok_l_same (T : Txt K mg) : ∀ n, FnM P w K mg base (0 + n) "_law_same" s_l_same ["_law_found", "_law_due"] (m_l_same n)
  | 0 => by
    obtain ⟨fa, fd, hm, Fu⟩ := T.d_l_same.ex
    exact fnM0 Fu hm (Fu.binds (ps := ["_law_found", "_law_due"]) fun _ _ _ _ _ _ us hl => match us, hl with | [_, _], _ => rfl)
  | n + 1 => by
    obtain ⟨fa, fd, hm, Fu⟩ := T.d_l_same.ex
    have c_rec := ok_l_same T n
    have hk_rec : 0 + n ≤ 0 + n := Nat.le_refl _
    exact fnM (k := 0 + n) Fu hm (Fu.binds (ps := ["_law_found", "_law_due"]) fun _ _ _ _ _ _ us hl => match us, hl with | [_, _], _ => rfl) sc_l_same fun cdv A outer s H E hr =>
    (mss_cons (ms_if (mt_val (me_isi T.kit (by rfl) T.n_isinstance (me_var 1) (me_tup (ml_cons (me_ty (by rfl) T.n_list (by rfl)) (ml_cons (me_ty (by rfl) T.n_tuple (by rfl)) ml_nil)))))
    (mss_cons (ms_if (mt_w (mw_or (mt_ne hr (me_isi T.kit (by rfl) T.n_isinstance (me_var 0) (me_ty (by rfl) T.n_list (by rfl))) (me_isi T.kit (by rfl) T.n_isinstance (me_var 1) (me_ty (by rfl) T.n_list (by rfl)))) (mw_or1 (mt_ne hr (me_isi T.kit (by rfl) T.n_isinstance (me_var 0) (me_ty (by rfl) T.n_tuple (by rfl))) (me_isi T.kit (by rfl) T.n_isinstance (me_var 1) (me_ty (by rfl) T.n_tuple (by rfl)))))))
    (mss_one (ms_ret me_bl))
    mss_nil)
    (mss_one (ms_ret (me_and (me_eq hr (me_len (by rfl) T.n_len (mh_var 0)) (me_len (by rfl) T.n_len (mh_var 1))) (me_one (me_all (by rfl) (by rfl) T.n_all (mh_of (me_frz (by refine mc_lc (own := [("_law_mine", 2), ("_law_theirs", 3)]) ?_ ?_ ?_ ?_ ?_ ?_ ?_; exact rfl; exact sc_l_same.nd; exact (mi_zip (by rfl) T.n_zip (me_var 0) (me_var 1)); exact (blkOk_by (N := N_l_same) (sc := (defScope s_l_same)) (scope := cs_l_same_0) (own := [("_law_mine", 2), ("_law_theirs", 3)]) (by decide +kernel)); exact (fun _ _ _ _ _ => (mg_tp (by rfl) (mgs_cons (mg_nm 2 (by exact sc_l_same.nd)) (mgs_cons (mg_nm 3 (by exact sc_l_same.nd)) mgs_nil)))); exact (fun _ _ _ _ _ => mts_nil); exact (fun _ _ _ _ _ => (me_call c_rec hr hk_rec passL (by rfl) (ml_cons (me_var 2) (ml_cons (me_var 3) ml_nil)) (argN_cons (argN_cons argN_nil)))))))))))))
    mss_nil)
    (mss_cons (ms_if (mt_val (me_isi T.kit (by rfl) T.n_isinstance (me_var 1) (me_ty (by rfl) T.n_dict (by rfl))))
    (mss_one (ms_ret (me_and (me_isi T.kit (by rfl) T.n_isinstance (me_var 0) (me_ty (by rfl) T.n_dict (by rfl))) (me_one (me_call c_rec hr hk_rec passD (by rfl) (ml_cons (me_frz (mc_items (by rfl) (by rfl) T.n_list (mp_var 0))) (ml_cons (me_frz (mc_items (by rfl) (by rfl) T.n_list (mp_var 1))) ml_nil)) (argN_cons (argN_cons argN_nil)))))))
    mss_nil)
    (mss_cons (ms_if (mt_w (mw_or (mt_val (me_isi T.kit (by rfl) T.n_isinstance (me_var 1) (me_ty (by rfl) T.n_bool (by rfl)))) (mw_or1 (mt_val (me_isi T.kit (by rfl) T.n_isinstance (me_var 0) (me_ty (by rfl) T.n_bool (by rfl)))))))
    (mss_one (ms_ret (me_and (me_isi T.kit (by rfl) T.n_isinstance (me_var 1) (me_ty (by rfl) T.n_bool (by rfl))) (me_and (me_isi T.kit (by rfl) T.n_isinstance (me_var 0) (me_ty (by rfl) T.n_bool (by rfl))) (me_one (me_eq hr (me_var 0) (me_var 1)))))))
    mss_nil)
    (mss_one (ms_ret (me_and (me_not (me_isi T.kit (by rfl) T.n_isinstance (me_var 0) (me_tup (ml_cons (me_ty (by rfl) T.n_list (by rfl)) (ml_cons (me_ty (by rfl) T.n_tuple (by rfl)) (ml_cons (me_ty (by rfl) T.n_dict (by rfl)) ml_nil)))))) (me_one (me_eq hr (me_var 0) (me_var 1)))))))))
theorem ok_l_loose (T : Txt K mg) (c_l_draw : FnM P w K mg base 1 "_law_draw" s_l_draw ["_law_stream_here", "_law_many"] m_l_draw) : ∀ n, FnM P w K mg base (1 + n) "_law_loose" s_l_loose ["_law_stream_here", "_law_thing"] (m_l_loose n)
  | 0 => by
    obtain ⟨fa, fd, hm, Fu⟩ := T.d_l_loose.ex
    exact fnM0 Fu hm (Fu.binds (ps := ["_law_stream_here", "_law_thing"]) fun _ _ _ _ _ _ us hl => match us, hl with | [_, _], _ => rfl)
  | n + 1 => by
    obtain ⟨fa, fd, hm, Fu⟩ := T.d_l_loose.ex
    have c_rec := ok_l_loose T c_l_draw n
    have hk_rec : 1 + n ≤ 1 + n := Nat.le_refl _
    exact fnM (k := 1 + n) Fu hm (Fu.binds (ps := ["_law_stream_here", "_law_thing"]) fun _ _ _ _ _ _ us hl => match us, hl with | [_, _], _ => rfl) sc_l_loose fun cdv A outer s H E hr =>
    (mss_cons (ms_if (mt_val (me_isi T.kit (by rfl) T.n_isinstance (me_var 1) (me_tup (ml_cons (me_ty (by rfl) T.n_list (by rfl)) (ml_cons (me_ty (by rfl) T.n_tuple (by rfl)) ml_nil)))))
    (mss_cons (by refine ms_setLc (i := 2) (k := frzC) (own := [("_law_one", 3)]) ?_ ?_ ?_ ?_ ?_ ?_ ?_ ?_ ?_ ?_ ?_; exact rfl; exact sc_l_loose.nd; exact rfl; exact rfl; exact (sw_true rfl rfl rfl (by decide +kernel)); exact (mi_seq (me_var 1)); exact (blkOk_by (N := N_l_loose) (sc := (defScope s_l_loose)) (scope := cs_l_loose_0) (own := [("_law_one", 3)]) (by decide +kernel)); exact (fun _ _ _ _ _ => (mg_nm 3 (by exact sc_l_loose.nd))); exact (fun _ _ _ _ _ => mts_nil); exact (fun _ _ _ _ _ => (me_call c_rec hr hk_rec passL (by rfl) (ml_cons (me_var 0) (ml_cons (me_var 3) ml_nil)) (argN_cons (argN_cons argN_nil)))); exact (by first | exact .inl rfl | exact .inr rfl))
    (mss_one (ms_ret (me_if (mt_eq hr (me_call c_l_draw hr (by omega) passD (by rfl) (ml_cons (me_var 0) (ml_cons me_int ml_nil)) (argN_cons (argN_cons argN_nil))) me_int) (me_var 2) (me_tuple (by rfl) T.n_tuple (mh_var 2))))))
    mss_nil)
    (mss_one (ms_ret (me_var 1))))
theorem ok_l_webs_right (T : Txt K mg) (c_l_same : FnM P w K mg base 60 "_law_same" s_l_same ["_law_found", "_law_due"] (m_l_same 60)) (c_of_roads : FnM P w K mg base 8 "of_roads" s_of_roads ["places", "roads", "begins", "ends"] m_of_roads) (c_of_places : FnM P w K mg base 8 "of_places" s_of_places ["places", "roads", "begins", "ends"] m_of_places) (c_l_draw : FnM P w K mg base 1 "_law_draw" s_l_draw ["_law_stream_here", "_law_many"] m_l_draw) (c_l_loose : FnM P w K mg base 61 "_law_loose" s_l_loose ["_law_stream_here", "_law_thing"] (m_l_loose 60)) (met_l_met : MetM K mg "_law_met" "told" false Kl_l_met Bs_l_met) (TB : TabsB K mg base) (hu : TabsOk K) : FnM P w K mg base 64 "_law_webs_right" s_l_webs_right ["_law_stream_here", "_law_many", "_law_streets", "_law_heads", "_law_goals"] m_l_webs_right := by
  exact fnML (k := 63) T.l_l_webs_right (show ("_law_webs_right" : Str) ∈ tabXs from by decide) TB (fun Fu => (Fu.binds (ps := ["_law_stream_here", "_law_many", "_law_streets", "_law_heads", "_law_goals"]) fun _ _ _ _ _ _ us hl => match us, hl with | [_, _, _, _, _], _ => rfl)) sc_l_webs_right fun fa cdv hc A outer s H E hr =>
    (mss_cons (ms_for ownsD rfl (mi_seq (me_tup (ml_cons (me_gloE (by rfl) T.g_of_roads) (ml_cons (me_gloE (by rfl) T.g_of_places) ml_nil)))) (mg_nm 8 (by exact sc_l_webs_right.nd))
    (mss_cons (ms_for ownsD rfl (mi_seq (me_tup (ml_cons me_non (ml_cons me_bl (ml_cons (me_neg me_int) (ml_cons me_str (ml_cons (me_frz (mc_lst (ml_cons me_int ml_nil))) (ml_cons (me_box mc_dK) ml_nil)))))))) (mg_nm 9 (by exact sc_l_webs_right.nd))
    (mss_one (ms_if (mt_not (mt_val (me_call c_l_same hr (by decide) passD (by rfl) (ml_cons (by refine me_met (k := 61) met_l_met (by rfl) hr (by decide) hc (show ("_law_webs_right" : Str) ∈ tabXs from by decide) hu (show LamX.lamSB (defScope s_l_webs_right) _ = true from by decide +kernel) ?_; exact fun A outer s H E f c' hr => (me_callV (k := 8) (look2 ⟨_, _, c_of_roads.mono (by decide), rfl⟩ ⟨_, _, c_of_places.mono (by decide), rfl⟩) hr (by decide) passLam (ml_cons (me_var 9) (ml_cons me_non (ml_cons me_non (ml_cons me_non ml_nil)))) (argN_cons (argN_cons (argN_cons (argN_cons argN_nil)))))) (ml_cons (me_tup (ml_cons me_str (ml_cons (me_var 9) ml_nil))) ml_nil)) (argN_cons (argN_cons argN_nil)))))
    (mss_one (ms_ret me_bl))
    mss_nil)))
    (mss_cons (ms_set (i := 5) sc_l_webs_right.nd rfl (Or.inl rfl) (me_frz (mc_lst (ml_cons me_non (ml_cons me_int (ml_cons (me_tup ml_nil) (ml_cons (me_tup (ml_cons me_int ml_nil)) (ml_cons (me_tup (ml_cons me_int (ml_cons me_int ml_nil))) (ml_cons (me_tup (ml_cons me_int (ml_cons (me_var 1) ml_nil))) (ml_cons (me_tup (ml_cons me_int (ml_cons (me_neg me_int) ml_nil))) (ml_cons (me_tup (ml_cons me_int (ml_cons me_bl ml_nil))) (ml_cons (me_tup (ml_cons me_int (ml_cons me_str ml_nil))) (ml_cons (me_tup (ml_cons me_int (ml_cons me_int (ml_cons me_int ml_nil)))) (ml_cons me_str (ml_cons (me_box mc_dispI2) ml_nil)))))))))))))))
    (mss_cons (ms_for ownsD rfl (mi_seq (me_frz (mc_cat (mh_var 5) (mh_of (me_frz (mc_lst (ml_cons (me_frz (mc_lst (ml_cons me_int (ml_cons me_non ml_nil)))) (ml_cons (me_tup (ml_cons me_bl (ml_cons me_int ml_nil))) (ml_cons (me_frz (mc_lst (ml_cons me_non (ml_cons me_int ml_nil)))) ml_nil))))))))) (mg_nm 9 (by exact sc_l_webs_right.nd))
    (mss_cons (ms_set (i := 6) sc_l_webs_right.nd rfl (Or.inl rfl) (me_call c_l_draw hr (by decide) passD (by rfl) (ml_cons (me_var 0) (ml_cons (me_add (me_len (by rfl) T.n_len (mh_var 2)) me_int) ml_nil)) (argN_cons (argN_cons argN_nil))))
    (mss_cons (ms_set (i := 10) sc_l_webs_right.nd rfl (Or.inr rfl) (me_frz (mc_cat (mh_of (me_frz (mc_cat (mh_of (me_frz (mc_cat (mh_of (me_slice (mh_var 2) mo_none (mo_some (me_var 6)))) (mh_of (me_frz (mc_lst (ml_cons (me_var 9) ml_nil))))))) (mh_of (me_slice (mh_var 2) (mo_some (me_var 6)) mo_none))))) (mh_of (me_frz (mc_lst (ml_cons me_non ml_nil)))))))
    (mss_one (ms_if (mt_not (mt_val (me_call c_l_same hr (by decide) passD (by rfl) (ml_cons (by refine me_met (k := 61) met_l_met (by rfl) hr (by decide) hc (show ("_law_webs_right" : Str) ∈ tabXs from by decide) hu (show LamX.lamSB (defScope s_l_webs_right) _ = true from by decide +kernel) ?_; exact fun A outer s H E f c' hr => (me_callV (k := 8) (look2 ⟨_, _, c_of_roads.mono (by decide), rfl⟩ ⟨_, _, c_of_places.mono (by decide), rfl⟩) hr (by decide) passLam (ml_cons (me_var 1) (ml_cons (me_call c_l_loose hr (by decide) passLam (by rfl) (ml_cons (me_var 0) (ml_cons (me_var 10) ml_nil)) (argN_cons (argN_cons argN_nil))) (ml_cons me_non (ml_cons me_non ml_nil)))) (argN_cons (argN_cons (argN_cons (argN_cons argN_nil)))))) (ml_cons (me_tup (ml_cons me_str (ml_cons (me_var 6) ml_nil))) ml_nil)) (argN_cons (argN_cons argN_nil)))))
    (mss_one (ms_ret me_bl))
    mss_nil)))))
    (mss_cons (ms_for ownsD rfl (mi_seq (me_tup (ml_cons me_non (ml_cons me_int (ml_cons me_str (ml_cons (me_box mc_dK) (ml_cons me_bl ml_nil))))))) (mg_nm 9 (by exact sc_l_webs_right.nd))
    (mss_one (ms_if (mt_not (mt_val (me_call c_l_same hr (by decide) passD (by rfl) (ml_cons (by refine me_met (k := 61) met_l_met (by rfl) hr (by decide) hc (show ("_law_webs_right" : Str) ∈ tabXs from by decide) hu (show LamX.lamSB (defScope s_l_webs_right) _ = true from by decide +kernel) ?_; exact fun A outer s H E f c' hr => (me_callV (k := 8) (look2 ⟨_, _, c_of_roads.mono (by decide), rfl⟩ ⟨_, _, c_of_places.mono (by decide), rfl⟩) hr (by decide) passLam (ml_cons (me_var 1) (ml_cons (me_var 9) (ml_cons me_non (ml_cons me_non ml_nil)))) (argN_cons (argN_cons (argN_cons (argN_cons argN_nil)))))) (ml_cons (me_tup (ml_cons me_str (ml_cons me_int ml_nil))) ml_nil)) (argN_cons (argN_cons argN_nil)))))
    (mss_one (ms_ret me_bl))
    mss_nil)))
    (mss_cons (ms_for ownsD rfl (mi_seq (me_tup (ml_cons me_non (ml_cons me_int (ml_cons me_str (ml_cons (me_box mc_dK) (ml_cons me_bl (ml_cons (me_frz (mc_lst (ml_cons (me_var 1) ml_nil))) (ml_cons (me_frz (mc_lst (ml_cons me_int (ml_cons me_int ml_nil)))) (ml_cons (me_frz (mc_lst (ml_cons (me_neg me_int) ml_nil))) (ml_cons (me_frz (mc_lst (ml_cons me_bl ml_nil))) (ml_cons (me_frz (mc_lst (ml_cons me_str ml_nil))) (ml_cons (me_frz (mc_lst (ml_cons me_non ml_nil))) (ml_cons (me_frz (mc_lst (ml_cons (me_frz (mc_lst (ml_cons me_int ml_nil))) ml_nil))) (ml_cons (me_tup (ml_cons me_int (ml_cons me_int (ml_cons me_int ml_nil)))) ml_nil))))))))))))))) (mg_nm 9 (by exact sc_l_webs_right.nd))
    (mss_cons (ms_set (i := 7) sc_l_webs_right.nd rfl (Or.inl rfl) (me_box (mc_lst (ml_cons (by refine me_met (k := 61) met_l_met (by rfl) hr (by decide) hc (show ("_law_webs_right" : Str) ∈ tabXs from by decide) hu (show LamX.lamSB (defScope s_l_webs_right) _ = true from by decide +kernel) ?_; exact fun A outer s H E f c' hr => (me_callV (k := 8) (look2 ⟨_, _, c_of_roads.mono (by decide), rfl⟩ ⟨_, _, c_of_places.mono (by decide), rfl⟩) hr (by decide) passLam (ml_cons (me_var 1) (ml_cons (me_var 2) (ml_cons (me_var 9) (ml_cons me_non ml_nil)))) (argN_cons (argN_cons (argN_cons (argN_cons argN_nil)))))) ml_nil))))
    (mss_cons (ms_expr (me_append (mp_var 7) (by refine me_met (k := 61) met_l_met (by rfl) hr (by decide) hc (show ("_law_webs_right" : Str) ∈ tabXs from by decide) hu (show LamX.lamSB (defScope s_l_webs_right) _ = true from by decide +kernel) ?_; exact fun A outer s H E f c' hr => (me_callV (k := 8) (look2 ⟨_, _, c_of_roads.mono (by decide), rfl⟩ ⟨_, _, c_of_places.mono (by decide), rfl⟩) hr (by decide) passLam (ml_cons (me_var 1) (ml_cons (me_var 2) (ml_cons (me_var 3) (ml_cons (me_var 9) ml_nil)))) (argN_cons (argN_cons (argN_cons (argN_cons argN_nil))))))))
    (mss_one (ms_if (mt_not (mt_val (me_call c_l_same hr (by decide) passD (by rfl) (ml_cons (me_var 7) (ml_cons (me_frz (mc_lst (ml_cons (me_tup (ml_cons me_str (ml_cons (me_var 9) ml_nil))) (ml_cons (me_tup (ml_cons me_str (ml_cons (me_var 9) ml_nil))) ml_nil)))) ml_nil)) (argN_cons (argN_cons argN_nil)))))
    (mss_one (ms_ret me_bl))
    mss_nil)))))
    (mss_one (ms_for ownsD rfl (mi_seq (me_tup (ml_cons (me_var 3) (ml_cons (me_tuple (by rfl) T.n_tuple (mh_of (me_slice (mh_var 3) mo_none (mo_some me_int)))) (ml_cons (me_frz (mc_cat (mh_of (me_slice (mh_var 3) mo_none (mo_some me_int))) (mh_var 4))) (ml_cons (me_frz (mc_cat (mh_var 4) (mh_of (me_slice (mh_var 3) (mo_some me_int) mo_none)))) (ml_cons (me_frz (mc_cat (mh_var 4) (mh_of (me_slice (mh_var 3) mo_none (mo_some me_int))))) ml_nil))))))) (mg_nm 9 (by exact sc_l_webs_right.nd))
    (mss_one (ms_if (mt_not (mt_val (me_call c_l_same hr (by decide) passD (by rfl) (ml_cons (by refine me_met (k := 61) met_l_met (by rfl) hr (by decide) hc (show ("_law_webs_right" : Str) ∈ tabXs from by decide) hu (show LamX.lamSB (defScope s_l_webs_right) _ = true from by decide +kernel) ?_; exact fun A outer s H E f c' hr => (me_callVK (k := 8) (ps := ["places", "roads", "begins", "ends"]) (look2 ⟨_, c_of_roads.mono (by decide), (show KwB "of_roads" "of_roads" s_of_roads ["places", "roads", "begins", "ends"] ["ends", "begins", "roads", "places"] 0 [3, 2, 1, 0] from fun _ _ _ _ _ _ us ws h1 h2 => match us, ws, h1, h2 with | [], [_, _, _, _], _, _ => rfl)⟩ ⟨_, c_of_places.mono (by decide), (show KwB "of_places" "of_places" s_of_places ["places", "roads", "begins", "ends"] ["ends", "begins", "roads", "places"] 0 [3, 2, 1, 0] from fun _ _ _ _ _ _ us ws h1 h2 => match us, ws, h1, h2 with | [], [_, _, _, _], _, _ => rfl)⟩) hr (by decide) passLam (mk_cons (me_var 9) (mk_cons (me_var 3) (mk_cons (me_var 2) (mk_cons (me_var 1) mk_nil)))) (argN_cons (argN_cons (argN_cons (argN_cons argN_nil)))))) (ml_cons (me_tup (ml_cons me_str (ml_cons (me_var 9) ml_nil))) ml_nil)) (argN_cons (argN_cons argN_nil)))))
    (mss_one (ms_ret me_bl))
    mss_nil))))))))))
    (mss_one (ms_ret me_bl)))
theorem ok_l_things_right (T : Txt K mg) (c_l_same : FnM P w K mg base 60 "_law_same" s_l_same ["_law_found", "_law_due"] (m_l_same 60)) (c_of_order : FnM P w K mg base 7 "of_order" s_of_order ["many", "pairs"] m_of_order) (c_of_leaps : FnM P w K mg base 6 "of_leaps" s_of_leaps ["many", "rows"] m_of_leaps) (c_l_draw : FnM P w K mg base 1 "_law_draw" s_l_draw ["_law_stream_here", "_law_many"] m_l_draw) (met_l_met : MetM K mg "_law_met" "told" false Kl_l_met Bs_l_met) (TB : TabsB K mg base) (hu : TabsOk K) : FnM P w K mg base 63 "_law_things_right" s_l_things_right ["_law_stream_here", "_law_many"] m_l_things_right := by
  exact fnML (k := 62) T.l_l_things_right (show ("_law_things_right" : Str) ∈ tabXs from by decide) TB (fun Fu => (Fu.binds (ps := ["_law_stream_here", "_law_many"]) fun _ _ _ _ _ _ us hl => match us, hl with | [_, _], _ => rfl)) sc_l_things_right fun fa cdv hc A outer s H E hr =>
    (mss_cons (ms_par (i := 2) (j := 3) rfl sc_l_things_right.nd rfl rfl (by decide) rfl rfl (mp_val (me_frz (mc_lst (ml_cons (me_tup (ml_cons me_int (ml_cons me_int ml_nil))) (ml_cons (me_frz (mc_lst (ml_cons me_int (ml_cons (me_sub (me_var 1) me_int) ml_nil)))) ml_nil)))) (mp_val (me_frz (mc_lst (ml_cons (me_frz (mc_lst (ml_cons me_int ml_nil))) (ml_cons (me_frz (mc_lst ml_nil)) (ml_cons (me_tup (ml_cons me_int (ml_cons me_int ml_nil))) ml_nil))))) mp_nil)) (by first | rfl | kernel_rfl))
    (mss_cons (ms_for ownsD rfl (mi_seq (me_tup (ml_cons (me_gloE (by rfl) T.g_of_order) (ml_cons (me_gloE (by rfl) T.g_of_leaps) ml_nil)))) (mg_nm 7 (by exact sc_l_things_right.nd))
    (mss_one (ms_for ownsD rfl (mi_seq (me_tup (ml_cons me_non (ml_cons me_bl (ml_cons (me_neg me_int) (ml_cons me_str (ml_cons (me_frz (mc_lst (ml_cons me_int ml_nil))) (ml_cons (me_box mc_dK) ml_nil)))))))) (mg_nm 8 (by exact sc_l_things_right.nd))
    (mss_one (ms_if (mt_not (mt_val (me_call c_l_same hr (by decide) passD (by rfl) (ml_cons (by refine me_met (k := 60) met_l_met (by rfl) hr (by decide) hc (show ("_law_things_right" : Str) ∈ tabXs from by decide) hu (show LamX.lamSB (defScope s_l_things_right) _ = true from by decide +kernel) ?_; exact fun A outer s H E f c' hr => (me_callV (k := 7) (look2 ⟨_, _, c_of_order.mono (by decide), rfl⟩ ⟨_, _, c_of_leaps.mono (by decide), rfl⟩) hr (by decide) passLam (ml_cons (me_var 8) (ml_cons me_non ml_nil)) (argN_cons (argN_cons argN_nil)))) (ml_cons (me_tup (ml_cons me_str (ml_cons (me_var 8) ml_nil))) ml_nil)) (argN_cons (argN_cons argN_nil)))))
    (mss_one (ms_ret me_bl))
    mss_nil)))))
    (mss_cons (ms_set (i := 4) sc_l_things_right.nd rfl (Or.inl rfl) (me_frz (mc_lst (ml_cons me_non (ml_cons me_int (ml_cons (me_tup ml_nil) (ml_cons (me_tup (ml_cons me_int ml_nil)) (ml_cons (me_tup (ml_cons me_int (ml_cons me_int ml_nil))) (ml_cons (me_tup (ml_cons me_int (ml_cons me_int ml_nil))) (ml_cons (me_tup (ml_cons me_int (ml_cons (me_var 1) ml_nil))) (ml_cons (me_tup (ml_cons (me_neg me_int) (ml_cons me_int ml_nil))) (ml_cons (me_tup (ml_cons me_int (ml_cons me_bl ml_nil))) (ml_cons (me_tup (ml_cons me_int (ml_cons me_str ml_nil))) (ml_cons (me_tup (ml_cons me_int (ml_cons me_int (ml_cons me_int ml_nil)))) (ml_cons me_str (ml_cons (me_box mc_dispI2) ml_nil))))))))))))))))
    (mss_cons (ms_for ownsD rfl (mi_seq (me_frz (mc_cat (mh_var 4) (mh_of (me_frz (mc_lst (ml_cons (me_tup (ml_cons me_bl (ml_cons me_int ml_nil))) (ml_cons (me_frz (mc_lst (ml_cons me_non (ml_cons me_int ml_nil)))) ml_nil)))))))) (mg_nm 8 (by exact sc_l_things_right.nd))
    (mss_cons (ms_set (i := 5) sc_l_things_right.nd rfl (Or.inl rfl) (me_call c_l_draw hr (by decide) passD (by rfl) (ml_cons (me_var 0) (ml_cons (me_add (me_len (by rfl) T.n_len (mh_var 2)) me_int) ml_nil)) (argN_cons (argN_cons argN_nil))))
    (mss_cons (ms_set (i := 9) sc_l_things_right.nd rfl (Or.inr rfl) (me_frz (mc_cat (mh_of (me_frz (mc_cat (mh_of (me_frz (mc_cat (mh_of (me_slice (mh_var 2) mo_none (mo_some (me_var 5)))) (mh_of (me_frz (mc_lst (ml_cons (me_var 8) ml_nil))))))) (mh_of (me_slice (mh_var 2) (mo_some (me_var 5)) mo_none))))) (mh_of (me_frz (mc_lst (ml_cons me_non ml_nil)))))))
    (mss_one (ms_if (mt_not (mt_val (me_call c_l_same hr (by decide) passD (by rfl) (ml_cons (by refine me_met (k := 60) met_l_met (by rfl) hr (by decide) hc (show ("_law_things_right" : Str) ∈ tabXs from by decide) hu (show LamX.lamSB (defScope s_l_things_right) _ = true from by decide +kernel) ?_; exact fun A outer s H E f c' hr => (me_call c_of_order hr (by decide) passLam (by rfl) (ml_cons (me_var 1) (ml_cons (me_var 9) ml_nil)) (argN_cons (argN_cons argN_nil)))) (ml_cons (me_tup (ml_cons me_str (ml_cons (me_var 5) ml_nil))) ml_nil)) (argN_cons (argN_cons argN_nil)))))
    (mss_one (ms_ret me_bl))
    mss_nil)))))
    (mss_cons (ms_for ownsD rfl (mi_seq (me_tup (ml_cons me_non (ml_cons me_int (ml_cons me_str (ml_cons (me_box mc_dK) (ml_cons me_bl (ml_cons (me_frz (mc_lst (ml_cons (me_var 1) ml_nil))) (ml_cons (me_frz (mc_lst (ml_cons me_int (ml_cons me_int ml_nil)))) (ml_cons (me_frz (mc_lst (ml_cons (me_neg me_int) ml_nil))) (ml_cons (me_frz (mc_lst (ml_cons me_bl ml_nil))) (ml_cons (me_frz (mc_lst (ml_cons me_str ml_nil))) (ml_cons (me_frz (mc_lst (ml_cons me_non ml_nil))) (ml_cons (me_frz (mc_lst (ml_cons (me_frz (mc_lst (ml_cons me_int ml_nil))) ml_nil))) (ml_cons (me_tup (ml_cons me_int (ml_cons me_int (ml_cons me_int ml_nil)))) ml_nil))))))))))))))) (mg_nm 8 (by exact sc_l_things_right.nd))
    (mss_cons (ms_set (i := 5) sc_l_things_right.nd rfl (Or.inl rfl) (me_call c_l_draw hr (by decide) passD (by rfl) (ml_cons (me_var 0) (ml_cons (me_add (me_len (by rfl) T.n_len (mh_var 3)) me_int) ml_nil)) (argN_cons (argN_cons argN_nil))))
    (mss_cons (ms_set (i := 9) sc_l_things_right.nd rfl (Or.inr rfl) (me_frz (mc_cat (mh_of (me_frz (mc_cat (mh_of (me_frz (mc_cat (mh_of (me_slice (mh_var 3) mo_none (mo_some (me_var 5)))) (mh_of (me_frz (mc_lst (ml_cons (me_var 8) ml_nil))))))) (mh_of (me_slice (mh_var 3) (mo_some (me_var 5)) mo_none))))) (mh_of (me_frz (mc_lst (ml_cons me_non ml_nil)))))))
    (mss_one (ms_if (mt_not (mt_val (me_call c_l_same hr (by decide) passD (by rfl) (ml_cons (by refine me_met (k := 60) met_l_met (by rfl) hr (by decide) hc (show ("_law_things_right" : Str) ∈ tabXs from by decide) hu (show LamX.lamSB (defScope s_l_things_right) _ = true from by decide +kernel) ?_; exact fun A outer s H E f c' hr => (me_callK c_of_leaps (show KwB "of_leaps" "of_leaps" s_of_leaps ["many", "rows"] ["rows", "many"] 0 [1, 0] from fun _ _ _ _ _ _ us ws h1 h2 => match us, ws, h1, h2 with | [], [_, _], _, _ => rfl) hr (by decide) passLam (by rfl) (mk_cons (me_var 9) (mk_cons (me_var 1) mk_nil)) (argN_cons (argN_cons argN_nil)))) (ml_cons (me_tup (ml_cons me_str (ml_cons (me_var 5) ml_nil))) ml_nil)) (argN_cons (argN_cons argN_nil)))))
    (mss_one (ms_ret me_bl))
    mss_nil)))))
    (mss_cons (ms_for ownsD rfl (mi_seq (me_tup (ml_cons me_non (ml_cons me_int (ml_cons me_str (ml_cons (me_box mc_dK) (ml_cons me_bl ml_nil))))))) (mg_nm 8 (by exact sc_l_things_right.nd))
    (mss_cons (ms_set (i := 6) sc_l_things_right.nd rfl (Or.inl rfl) (me_box (mc_lst (ml_cons (by refine me_met (k := 60) met_l_met (by rfl) hr (by decide) hc (show ("_law_things_right" : Str) ∈ tabXs from by decide) hu (show LamX.lamSB (defScope s_l_things_right) _ = true from by decide +kernel) ?_; exact fun A outer s H E f c' hr => (me_callK c_of_order (show KwB "of_order" "of_order" s_of_order ["many", "pairs"] ["pairs", "many"] 0 [1, 0] from fun _ _ _ _ _ _ us ws h1 h2 => match us, ws, h1, h2 with | [], [_, _], _, _ => rfl) hr (by decide) passLam (by rfl) (mk_cons (me_var 8) (mk_cons (me_var 1) mk_nil)) (argN_cons (argN_cons argN_nil)))) ml_nil))))
    (mss_cons (ms_expr (me_append (mp_var 6) (by refine me_met (k := 60) met_l_met (by rfl) hr (by decide) hc (show ("_law_things_right" : Str) ∈ tabXs from by decide) hu (show LamX.lamSB (defScope s_l_things_right) _ = true from by decide +kernel) ?_; exact fun A outer s H E f c' hr => (me_call c_of_leaps hr (by decide) passLam (by rfl) (ml_cons (me_var 1) (ml_cons (me_var 8) ml_nil)) (argN_cons (argN_cons argN_nil))))))
    (mss_one (ms_if (mt_not (mt_val (me_call c_l_same hr (by decide) passD (by rfl) (ml_cons (me_var 6) (ml_cons (me_frz (mc_lst (ml_cons (me_tup (ml_cons me_str (ml_cons me_int ml_nil))) (ml_cons (me_tup (ml_cons me_str (ml_cons me_int ml_nil))) ml_nil)))) ml_nil)) (argN_cons (argN_cons argN_nil)))))
    (mss_one (ms_ret me_bl))
    mss_nil)))))
    (mss_one (ms_ret me_bl))))))))
theorem ok_law (T : Txt K mg) (c_l_stream : FnM P w K mg base 1 "_law_stream" s_l_stream ["_law_script"] m_l_stream) (c_l_draw : FnM P w K mg base 1 "_law_draw" s_l_draw ["_law_stream_here", "_law_many"] m_l_draw) (c_l_mixed : FnM P w K mg base 2 "_law_mixed" s_l_mixed ["_law_stream_here", "_law_things"] m_l_mixed) (c_l_webs_right : FnM P w K mg base 64 "_law_webs_right" s_l_webs_right ["_law_stream_here", "_law_many", "_law_streets", "_law_heads", "_law_goals"] m_l_webs_right) (c_l_things_right : FnM P w K mg base 63 "_law_things_right" s_l_things_right ["_law_stream_here", "_law_many"] m_l_things_right) (c_of_roads : FnM P w K mg base 8 "of_roads" s_of_roads ["places", "roads", "begins", "ends"] m_of_roads) (c_of_places : FnM P w K mg base 8 "of_places" s_of_places ["places", "roads", "begins", "ends"] m_of_places) (c_of_order : FnM P w K mg base 7 "of_order" s_of_order ["many", "pairs"] m_of_order) (c_l_same : FnM P w K mg base 60 "_law_same" s_l_same ["_law_found", "_law_due"] (m_l_same 60)) (met_l_met : MetM K mg "_law_met" "told" false Kl_l_met Bs_l_met) (TB : TabsB K mg base) (hu : TabsOk K) : FnM P w K mg base 67 "law" s_law ["_law_script"] m_law := by
  exact fnML (k := 66) T.l_law (show ("law" : Str) ∈ tabXs from by decide) TB (fun Fu => (Fu.binds (ps := ["_law_script"]) fun _ _ _ _ _ _ us hl => match us, hl with | [_], _ => rfl)) sc_law fun fa cdv hc A outer s H E hr =>
    (mss_cons (ms_set (i := 1) sc_law.nd rfl (Or.inr rfl) (me_call c_l_stream hr (by decide) passD (by rfl) (ml_cons (me_var 0) ml_nil) (argN_cons argN_nil)))
    (mss_cons (ms_for ownsD rfl (mi_range1 (by rfl) T.n_range me_int) (mg_nm 2 (by exact sc_law.nd))
    (mss_cons (ms_set (i := 3) sc_law.nd rfl (Or.inl rfl) (me_add me_int (me_call c_l_draw hr (by decide) passD (by rfl) (ml_cons (me_var 1) (ml_cons me_int ml_nil)) (argN_cons (argN_cons argN_nil)))))
    (mss_cons (ms_set (i := 4) sc_law.nd rfl (Or.inr rfl) (me_fz (me_call c_l_mixed hr (by decide) passD (by rfl) (ml_cons (me_var 1) (ml_cons (me_frz (mc_listRg1 (by rfl) (by rfl) T.n_list (by rfl) T.n_range (me_var 3))) ml_nil)) (argN_cons (argN_cons argN_nil)))))
    (mss_cons (by refine ms_setLc (i := 5) (k := frzC) (own := [("_law_k", 9)]) ?_ ?_ ?_ ?_ ?_ ?_ ?_ ?_ ?_ ?_ ?_; exact rfl; exact sc_law.nd; exact rfl; exact rfl; exact (sw_true rfl rfl rfl (by decide +kernel)); exact (mi_range1 (by rfl) T.n_range (me_call c_l_draw hr (by decide) passD (by rfl) (ml_cons (me_var 1) (ml_cons me_int ml_nil)) (argN_cons (argN_cons argN_nil)))); exact (blkOk_by (N := N_law) (sc := (defScope s_law)) (scope := cs_law_0) (own := [("_law_k", 9)]) (by decide +kernel)); exact (fun _ _ _ _ _ => (mg_nm 9 (by exact sc_law.nd))); exact (fun _ _ _ _ _ => mts_nil); exact (fun _ _ _ _ _ => (me_tuple (by rfl) T.n_tuple (mh_of (me_slice (mh_of (me_fz (me_call c_l_mixed hr (by decide) passL (by rfl) (ml_cons (me_var 1) (ml_cons (me_var 4) ml_nil)) (argN_cons (argN_cons argN_nil))))) mo_none (mo_some me_int))))); exact (by first | exact .inl rfl | exact .inr rfl))
    (mss_one (ms_if (mt_w (mw_or (mt_not (mt_val (me_call c_l_webs_right hr (by decide) passD (by rfl) (ml_cons (me_var 1) (ml_cons (me_var 3) (ml_cons (me_var 5) (ml_cons (me_slice (mh_var 4) mo_none (mo_some me_int)) (ml_cons (me_slice (mh_var 4) (mo_some me_int) (mo_some me_int)) ml_nil))))) (argN_cons (argN_cons (argN_cons (argN_cons (argN_cons argN_nil)))))))) (mw_or1 (mt_not (mt_val (me_call c_l_things_right hr (by decide) passD (by rfl) (ml_cons (me_var 1) (ml_cons (me_var 3) ml_nil)) (argN_cons (argN_cons argN_nil))))))))
    (mss_one (ms_ret me_bl))
    mss_nil))))))
    (mss_cons (ms_set (i := 8) sc_law.nd rfl (Or.inr rfl) (me_frz (mc_lst (ml_cons (me_box (mc_lst (ml_cons me_str ml_nil))) (ml_cons (me_box (mc_lst (ml_cons me_str ml_nil))) (ml_cons (me_box (mc_lst (ml_cons me_str ml_nil))) (ml_cons (me_box (mc_lst (ml_cons me_str ml_nil))) ml_nil)))))))
    (mss_cons (ms_set (i := 6) sc_law.nd rfl (Or.inl rfl) (me_box (mc_lst (ml_cons (by refine me_met (k := 64) met_l_met (by rfl) hr (by decide) hc (show ("law" : Str) ∈ tabXs from by decide) hu (show LamX.lamSB (defScope s_law) _ = true from by decide +kernel) ?_; exact fun A outer s H E f c' hr => (me_call c_of_roads hr (by decide) passLam (by rfl) (ml_cons (me_ix (mh_var 8) me_int) (ml_cons (me_frz (mc_lst ml_nil)) (ml_cons (me_frz (mc_lst ml_nil)) (ml_cons (me_frz (mc_lst ml_nil)) ml_nil)))) (argN_cons (argN_cons (argN_cons (argN_cons argN_nil)))))) ml_nil))))
    (mss_cons (ms_expr (me_append (mp_var 6) (by refine me_met (k := 64) met_l_met (by rfl) hr (by decide) hc (show ("law" : Str) ∈ tabXs from by decide) hu (show LamX.lamSB (defScope s_law) _ = true from by decide +kernel) ?_; exact fun A outer s H E f c' hr => (me_call c_of_places hr (by decide) passLam (by rfl) (ml_cons me_int (ml_cons (me_frz (mc_lst ml_nil)) (ml_cons (me_ix (mh_var 8) me_int) (ml_cons (me_frz (mc_lst ml_nil)) ml_nil)))) (argN_cons (argN_cons (argN_cons (argN_cons argN_nil))))))))
    (mss_cons (ms_expr (me_append (mp_var 6) (by refine me_met (k := 64) met_l_met (by rfl) hr (by decide) hc (show ("law" : Str) ∈ tabXs from by decide) hu (show LamX.lamSB (defScope s_law) _ = true from by decide +kernel) ?_; exact fun A outer s H E f c' hr => (me_call c_of_roads hr (by decide) passLam (by rfl) (ml_cons me_int (ml_cons (me_frz (mc_lst ml_nil)) (ml_cons (me_frz (mc_lst ml_nil)) (ml_cons (me_ix (mh_var 8) me_int) ml_nil)))) (argN_cons (argN_cons (argN_cons (argN_cons argN_nil))))))))
    (mss_cons (ms_expr (me_append (mp_var 6) (by refine me_met (k := 64) met_l_met (by rfl) hr (by decide) hc (show ("law" : Str) ∈ tabXs from by decide) hu (show LamX.lamSB (defScope s_law) _ = true from by decide +kernel) ?_; exact fun A outer s H E f c' hr => (me_call c_of_order hr (by decide) passLam (by rfl) (ml_cons (me_ix (mh_var 8) me_int) (ml_cons (me_frz (mc_lst ml_nil)) ml_nil)) (argN_cons (argN_cons argN_nil))))))
    (mss_cons (ms_for ownsD rfl (mi_seq (me_var 8)) (mg_nm 7 (by exact sc_law.nd))
    (mss_one (ms_expr (me_append (mp_var 7) me_str))))
    (mss_one (ms_ret (me_call c_l_same hr (by decide) passD (by rfl) (ml_cons (me_var 6) (ml_cons (me_frz (mc_lst (ml_cons (me_tup (ml_cons me_str (ml_cons (me_ix (mh_var 8) me_int) ml_nil))) (ml_cons (me_tup (ml_cons me_str (ml_cons (me_ix (mh_var 8) me_int) ml_nil))) (ml_cons (me_tup (ml_cons me_str (ml_cons (me_ix (mh_var 8) me_int) ml_nil))) (ml_cons (me_tup (ml_cons me_str (ml_cons (me_ix (mh_var 8) me_int) ml_nil))) ml_nil)))))) ml_nil)) (argN_cons (argN_cons argN_nil)))))))))))))
end
/-! all defs -/
section
variable {P : Program} {w : World} {K : PySem.W.Frag} {mg : Str → Option Value} {base : Heap}
theorem ok_all (T : Txt K mg) (TB : TabsB K mg base) : FnM P w K mg base 67 "law" s_law ["_law_script"] m_law := by
  have x_BadPlaces : ExM P w K mg base 1 "BadPlaces" ["places"] := okx_BadPlaces T
  have x_BadRoads : ExM P w K mg base 1 "BadRoads" ["index"] := okx_BadRoads T
  have x_BadBegins : ExM P w K mg base 1 "BadBegins" ["begins"] := okx_BadBegins T
  have x_BadEnds : ExM P w K mg base 1 "BadEnds" ["ends"] := okx_BadEnds T
  have x_BadMany : ExM P w K mg base 1 "BadMany" ["many"] := okx_BadMany T
  have x_BadPairs : ExM P w K mg base 1 "BadPairs" ["index"] := okx_BadPairs T
  have x_BadRows : ExM P w K mg base 1 "BadRows" ["index"] := okx_BadRows T
  have met_l_met := okm_l_met (K := K) (mg := mg) T
  have c_is_integer : FnM P w K mg base 1 "is_integer" s_is_integer ["thing"] m_is_integer := ok_is_integer T
  have c_is_number : FnM P w K mg base 2 "is_number" s_is_number ["thing"] m_is_number := ok_is_number T c_is_integer
  have c_is_list : FnM P w K mg base 1 "is_list" s_is_list ["thing"] m_is_list := ok_is_list T
  have c_are_unlike : FnM P w K mg base 3 "are_unlike" s_are_unlike ["thing", "bound"] m_are_unlike := ok_are_unlike T c_is_list c_is_number
  have c_is_pair : FnM P w K mg base 4 "is_pair" s_is_pair ["thing", "bound"] m_is_pair := ok_is_pair T c_is_list c_are_unlike
  have c_check_web : FnM P w K mg base 7 "check_web" s_check_web ["places", "roads", "begins", "ends"] m_check_web := ok_check_web T c_is_number c_is_list c_is_pair c_are_unlike x_BadPlaces x_BadRoads x_BadBegins x_BadEnds TB T.tt
  have c_of_roads : FnM P w K mg base 8 "of_roads" s_of_roads ["places", "roads", "begins", "ends"] m_of_roads := ok_of_roads T c_check_web
  have c_of_places : FnM P w K mg base 8 "of_places" s_of_places ["places", "roads", "begins", "ends"] m_of_places := ok_of_places T c_check_web
  have c_of_order : FnM P w K mg base 7 "of_order" s_of_order ["many", "pairs"] m_of_order := ok_of_order T c_is_number c_is_list c_is_pair x_BadMany x_BadPairs TB T.tt
  have c_of_leaps : FnM P w K mg base 6 "of_leaps" s_of_leaps ["many", "rows"] m_of_leaps := ok_of_leaps T c_is_number c_is_list c_are_unlike x_BadMany x_BadRows TB T.tt
  have c_l_stream : FnM P w K mg base 1 "_law_stream" s_l_stream ["_law_script"] m_l_stream := ok_l_stream T
  have c_l_draw : FnM P w K mg base 1 "_law_draw" s_l_draw ["_law_stream_here", "_law_many"] m_l_draw := ok_l_draw T
  have c_l_mixed : FnM P w K mg base 2 "_law_mixed" s_l_mixed ["_law_stream_here", "_law_things"] m_l_mixed := ok_l_mixed T c_l_draw
  have c_l_same : FnM P w K mg base 60 "_law_same" s_l_same ["_law_found", "_law_due"] (m_l_same 60) := ok_l_same T 60
  have c_l_loose : FnM P w K mg base 61 "_law_loose" s_l_loose ["_law_stream_here", "_law_thing"] (m_l_loose 60) := ok_l_loose T c_l_draw 60
  have c_l_webs_right : FnM P w K mg base 64 "_law_webs_right" s_l_webs_right ["_law_stream_here", "_law_many", "_law_streets", "_law_heads", "_law_goals"] m_l_webs_right := ok_l_webs_right T c_l_same c_of_roads c_of_places c_l_draw c_l_loose met_l_met TB T.tt
  have c_l_things_right : FnM P w K mg base 63 "_law_things_right" s_l_things_right ["_law_stream_here", "_law_many"] m_l_things_right := ok_l_things_right T c_l_same c_of_order c_of_leaps c_l_draw met_l_met TB T.tt
  have c_law : FnM P w K mg base 67 "law" s_law ["_law_script"] m_law := ok_law T c_l_stream c_l_draw c_l_mixed c_l_webs_right c_l_things_right c_of_roads c_of_places c_of_order c_l_same met_l_met TB T.tt
  exact c_law
theorem of_txt {P : Program} {w : World} (T : Txt K mg) : (∀ x ∈ TabCtx.xs, ∀ p, PySem.W.tabIn K x = some p → K.lookup p.2 = none) ∧ DefIn K mg "law" s_law ∧ ∀ base : Heap, TabsB K mg base → FnM P w K mg base 67 "law" s_law ["_law_script"] m_law := by
  refine ⟨fun x hx => ?_, T.d_law, fun base TB => ok_all T TB⟩
  have hx : x ∈ tabXs := hx
  unfold tabXs at hx
  simp only [List.mem_cons, List.not_mem_nil, or_false] at hx
  rcases hx with rfl | rfl | rfl | rfl | rfl | rfl
  · exact lam_none T.l_check_web
  · exact lam_none T.l_of_order
  · exact lam_none T.l_of_leaps
  · exact lam_none T.l_l_webs_right
  · exact lam_none T.l_l_things_right
  · exact lam_none T.l_law
end
end Lw
end

section
/-! MmZ: walks that search, walks that gather. -/
namespace Mm
open PySem L2
variable [TabCtx]
section
variable {α : Type} {S : Sg} {sl : List Slot} {g : G} {Q : Fl → Sg → Prop} {T : Tg} {b : M Fl} {ok : Sg → Prop}
/-- numbered from 0 on -/
def en (rs : List α) : List (Nat × α) := rs.zipIdx.map fun p => (p.2, p.1)
theorem ok_isNM {Q : D → Sg → Prop} {a : M D} : Ok (isNM a S) Q ↔ Ok (a S) fun x S1 => Q (.bl (isN x)) S1 := by unfold isNM; simp only [ok_bd, ok_ret]
theorem k_exbox {Q : Nat → Prop} {r : Nat} (q : Q r) : ∃ r', D.box r = .box r' ∧ Q r' := ⟨r, rfl, q⟩
/-! ### comprehensions over what is made of a plain list -/
theorem ok_lcX {sl : List Slot} {src : M Src} {S0 : Sg} {T : Tg} {vs : List Nat} {t : M Bool} {e : M D} {Q : Cell → Sg → Prop} {xs : List α} {ok : Sg → Prop} (F : α → D) (p : α → Bool) (f : α → D)
    (hs : ∀ P : Src → Sg → Prop, P ⟨xs.map F, ok⟩ ⟨sl, g⟩ → Ok (src S0) P) (hno : noOwn sl vs = true) (hT : ∀ i ∈ T.ix, i ∈ vs) (hok : ok ⟨sl, g⟩) (hl : xs.length ≤ sizeLine)
    (he : ∀ a ∈ xs, ∃ sl2, asg T (F a) (inner vs ⟨sl, g⟩) = some ⟨sl2, g⟩ ∧ outer vs ⟨sl, g⟩ ⟨sl2, g⟩ = ⟨sl, g⟩ ∧ (∀ P : Bool → Sg → Prop, P (p a) ⟨sl2, g⟩ → Ok (t ⟨sl2, g⟩) P) ∧ (p a = true → ∀ P : D → Sg → Prop, P (f a) ⟨sl2, g⟩ → Ok (e ⟨sl2, g⟩) P))
    (q : Q (.lst ((xs.filter p).map f)) ⟨sl, g⟩) : Ok (lcM src T vs t e S0) Q := by
  show Ok (lcM (fun _ => src S0) T vs t e ⟨sl, g⟩) Q
  refine ok_lcM (hs _ ⟨⟨hno, hT⟩, fun i acc S => S = ⟨sl, g⟩ ∧ acc = ((xs.take i).filter p).map f, ?_, ⟨rfl, rfl⟩, ?_, ?_⟩)
  · rintro i acc S _ ⟨rfl, _⟩
    exact hok
  · rintro i d acc S hd ⟨rfl, rfl⟩
    have hd : (xs.map F)[i]? = some d := hd
    rw [List.getElem?_map] at hd
    cases ea : xs[i]? with
    | none => rw [ea] at hd; cases hd
    | some a =>
      rw [ea] at hd
      cases hd
      have hi : i < xs.length := (List.getElem?_eq_some_iff.mp ea).1
      obtain ⟨sl2, h1, h2, h3, h4⟩ := he a (List.mem_of_getElem? ea)
      have hlen : (((xs.take i).filter p).map f).length < sizeLine := by
        have := List.length_filter_le p (xs.take i)
        rw [List.length_take] at this
        rw [List.length_map]; omega
      have e1 : xs.take (i + 1) = xs.take i ++ [a] := by rw [List.take_add_one, ea]; rfl
      refine ⟨⟨sl2, g⟩, h1, h3 _ ?_⟩
      cases hp : p a with
      | true =>
        rw [if_pos rfl]
        refine h4 hp _ ⟨hlen, h2, ?_⟩
        rw [e1, List.filter_append, List.map_append, List.filter_cons_of_pos (by simpa using hp)]
        rfl
      | false =>
        rw [if_neg (by decide)]
        refine ⟨h2, ?_⟩
        rw [e1, List.filter_append, List.map_append, List.filter_cons_of_neg (by simpa using hp)]
        simp
  · rintro acc S ⟨rfl, rfl⟩
    have e : List.take (⟨xs.map F, ok⟩ : Src).ds.length xs = xs := by show List.take (xs.map F).length xs = xs; rw [List.length_map, List.take_length]
    rw [e]; exact q
theorem ok_lcY {sl : List Slot} {src : M Src} {S0 : Sg} {T : Tg} {vs : List Nat} {e : M D} {Q : Cell → Sg → Prop} {xs : List α} {ok : Sg → Prop} (F : α → D) (f : α → D)
    (hs : ∀ P : Src → Sg → Prop, P ⟨xs.map F, ok⟩ ⟨sl, g⟩ → Ok (src S0) P) (hno : noOwn sl vs = true) (hT : ∀ i ∈ T.ix, i ∈ vs) (hok : ok ⟨sl, g⟩) (hl : xs.length ≤ sizeLine)
    (he : ∀ a ∈ xs, ∃ sl2, asg T (F a) (inner vs ⟨sl, g⟩) = some ⟨sl2, g⟩ ∧ outer vs ⟨sl, g⟩ ⟨sl2, g⟩ = ⟨sl, g⟩ ∧ ∀ P : D → Sg → Prop, P (f a) ⟨sl2, g⟩ → Ok (e ⟨sl2, g⟩) P)
    (q : Q (.lst (xs.map f)) ⟨sl, g⟩) : Ok (lcM src T vs yesM e S0) Q := by
  refine ok_lcX F (fun _ => true) f hs hno hT hok hl (fun a ha => ?_) (by rw [List.filter_eq_self.mpr fun _ _ => rfl]; exact q)
  obtain ⟨sl2, h1, h2, h3⟩ := he a ha
  exact ⟨sl2, h1, h2, fun P hP => ok_ret.mpr hP, fun _ => h3⟩
theorem ok_lcY1 {sl : List Slot} {src : M Src} {S0 : Sg} {n : Nat} {e : M D} {Q : Cell → Sg → Prop} {xs : List α} {ok : Sg → Prop} (F : α → D) (f : α → D)
    (hs : ∀ P : Src → Sg → Prop, P ⟨xs.map F, ok⟩ ⟨sl, g⟩ → Ok (src S0) P) (hn : n < sl.length) (hno : noOwn sl [n] = true) (hok : ok ⟨sl, g⟩) (hl : xs.length ≤ sizeLine)
    (he : ∀ a ∈ xs, ∀ P : D → Sg → Prop, P (f a) ⟨sl.set n (.val (F a)), g⟩ → Ok (e ⟨sl.set n (.val (F a)), g⟩) P)
    (q : Q (.lst (xs.map f)) ⟨sl, g⟩) : Ok (lcM src (.nm n) [n] yesM e S0) Q := by
  refine ok_lcY F f hs hno (fun i hi => by simpa only [Tg.ix] using hi) hok hl (fun a ha => ?_) q
  exact ⟨sl.set n (.val (F a)), by simp only [asg]; exact congrArg some inner1, outer1 hn, he a ha⟩
end
end Mm
end

section
open PySem L2
/-! Mx: shorter rules for comprehensions, branches that join. -/
namespace Mm
variable [TabCtx]
section
variable {α β : Type} {sl : List Slot} {g : G} {src : M Src} {t : M Bool} {e : M D} {Q : Cell → Sg → Prop} {xs : List α} {ok : Sg → Prop} {n i j : Nat} {S : Sg}
theorem k_anyB {p : α → Bool} {Q : D → Sg → Prop} (q : Q (.bl (xs.any p)) S) : Ok (anyF (true, (xs.map p).map D.bl) S) Q := by
  rw [ok_anyF, List.any_map]
  exact q
theorem k_allB {p : α → Bool} {Q : D → Sg → Prop} (q : Q (.bl (xs.all p)) S) : Ok (allF (true, (xs.map p).map D.bl) S) Q := by
  rw [ok_allF, List.all_map]
  exact q
end
end Mm
end

section
/-! Pc: the stream and its draws. -/
namespace Lw
open PySem L2 Mm
/-- the stream at r (its numbers at r0), c draws so far at most -/
structure St (g : G) (r r0 : Nat) (c : Int) : Prop where
  ex : ∃ (xs : List Int) (a n k : Int), g.cs r = some (.lst [.box r0, .int a, .int n, .int k]) ∧ g.cs r0 = some (.lst (xs.map D.int)) ∧ 0 ≤ a ∧ 0 ≤ n ∧ n ≤ c ∧ 0 ≤ k ∧ k < 2147483647
  ne : r ≠ r0
  l1 : r < g.nx
  l2 : r0 < g.nx
/-- nothing else is touched -/
structure Fr (r r0 : Nat) (g g' : G) : Prop where
  nx : g.nx ≤ g'.nx
  cs : ∀ q, q < g.nx → q ≠ r → q ≠ r0 → g'.cs q = g.cs q
theorem Fr.refl {r r0 : Nat} (g : G) : Fr r r0 g g := ⟨Nat.le_refl _, fun _ _ _ _ => rfl⟩
theorem Fr.trans {r r0 : Nat} {g g1 g2 : G} (a : Fr r r0 g g1) (b : Fr r r0 g1 g2) : Fr r r0 g g2 := ⟨Nat.le_trans a.nx b.nx, fun q h1 h2 h3 => (b.cs q (Nat.lt_of_lt_of_le h1 a.nx) h2 h3).trans (a.cs q h1 h2 h3)⟩
theorem St.mono {g : G} {r r0 : Nat} {c c' : Int} (s : St g r r0 c) (h : c ≤ c') : St g r r0 c' := by
  obtain ⟨xs, a, n, k, h1, h2, h3, h4, h5, h6, h7⟩ := s.ex
  exact ⟨⟨xs, a, n, k, h1, h2, h3, h4, by omega, h6, h7⟩, s.ne, s.l1, s.l2⟩
theorem put_cs {g : G} {r q : Nat} {x : Cell} : (g.put r x).cs q = if q = r then some x else g.cs q := rfl
theorem add_nx {g : G} {x : Cell} : (g.add x).nx = g.nx + 1 := rfl
theorem add_cs {g : G} {q : Nat} {x : Cell} : (g.add x).cs q = if q = g.nx then some x else g.cs q := rfl
theorem del_cs' {g : G} {r q : Nat} : (g.del r).cs q = if q = r then none else g.cs q := rfl
theorem ok_v1 {S : Sg} {m : M D} {f : D → M D} {Q : D → Sg → Prop} : Ok (v1 m f S) Q ↔ Ok (m S) fun d S1 => Ok (f d S1) Q := by unfold v1; exact ok_bd
@[simp] theorem ok_absF {S : Sg} {i : Int} {Q : D → Sg → Prop} : Ok (absF (.int i) S) Q ↔ Q (.int (if i < 0 then -i else i)) S := ok_ok
@[simp] theorem ok_intF {S : Sg} {i : Int} {Q : D → Sg → Prop} : Ok (intF (.int i) S) Q ↔ Q (.int i) S := ok_ok
theorem log2_le {n k : Nat} (h : n < 2 ^ k) : n.log2 ≤ k := by
  by_cases z : n = 0
  · subst z; simp
  · exact Nat.le_of_lt ((Nat.log2_lt z).mpr h)
theorem cmulW_of {i j : Int} {a b : Nat} (h1 : i.natAbs < 2 ^ a) (h2 : j.natAbs < 2 ^ b) (h : a + b < 1000000) : CMulW i j := by
  unfold CMulW
  have := log2_le h1
  have := log2_le h2
  omega
theorem vw_boxI {sl : List Slot} {g : G} {r : Nat} : vwH ⟨sl, g⟩ (.d (.box r)) = match g.cs r with | some (.lst xs) => some (true, xs) | _ => none := rfl
theorem vw_slI {sl : List Slot} {g : G} {n : Nat} : vwH ⟨sl, g⟩ (.sl n) = match sl[n]? with | some (.val d) => vwD ⟨sl, g⟩ d | some (.own (.lst xs)) => some (true, xs) | _ => none := rfl
theorem at4_0 {a b c d : D} : atI [a, b, c, d] 0 = some a := rfl
theorem at4_1 {a b c d : D} : atI [a, b, c, d] 1 = some b := rfl
theorem at4_2 {a b c d : D} : atI [a, b, c, d] 2 = some c := rfl
theorem at4_3 {a b c d : D} : atI [a, b, c, d] 3 = some d := rfl
theorem set4_1 {a b c d x : D} : setC (.lst [a, b, c, d]) (.int 1) x = some (.lst [a, x, c, d]) := rfl
theorem set4_2 {a b c d x : D} : setC (.lst [a, b, c, d]) (.int 2) x = some (.lst [a, b, x, d]) := rfl
theorem set4_3 {a b c d x : D} : setC (.lst [a, b, c, d]) (.int 3) x = some (.lst [a, b, c, x]) := rfl
/-- what the draw's loop keeps: many in its slot, the stream at r -/
def DrI (g : G) (r r0 : Nat) (many n : Int) (l : Nat) (S : Sg) : Prop := ∃ (y : Slot) (xs : List Int) (a k : Int), S.sl = [.val (.box r), .val (.int many), y, .emp, .emp] ∧ xs.length = l ∧ S.g.cs r = some (.lst [.box r0, .int a, .int n, .int k]) ∧ S.g.cs r0 = some (.lst (xs.map D.int)) ∧
  0 ≤ a ∧ 0 ≤ k ∧ k < 2147483647 ∧ Fr r r0 g S.g
theorem popAt0 {xs : List D} {x : D} : popAtF [.int 0] (x :: xs) = some (x, xs) := by
  show (if -(2 ^ 63) ≤ (0 : Int) ∧ (0 : Int) < 2 ^ 63 then (match seqIndex? 0 (x :: xs).length with
    | some k => match (x :: xs)[k]? with | some d => some (d, (x :: xs).eraseIdx k) | none => none
    | none => none) else none) = _
  rw [if_pos (by decide)]
  have e : seqIndex? 0 (x :: xs).length = some 0 := by
    unfold seqIndex?
    simp
  rw [e]
  rfl
theorem fr_put {g g' : G} {r r0 : Nat} (f : Fr r r0 g g') {x : Cell} : Fr r r0 g (g'.put r x) := ⟨f.nx, fun q h1 h2 h3 => by rw [put_cs, if_neg h2]; exact f.cs q h1 h2 h3⟩
theorem fr_put0 {g g' : G} {r r0 : Nat} (f : Fr r r0 g g') {x : Cell} : Fr r r0 g (g'.put r0 x) := ⟨f.nx, fun q h1 h2 h3 => by rw [put_cs, if_neg h3]; exact f.cs q h1 h2 h3⟩
theorem draw_ok {g : G} {r r0 : Nat} {c many : Int} (s : St g r r0 c) (hc : c ≤ 100000000000000) (h1 : 1 ≤ many) (h2 : many ≤ 4611686018427387904) :
    Ok (m_l_draw [.box r, .int many] ⟨[], g⟩) fun d S => S.sl = [] ∧ St S.g r r0 (c + 1) ∧ Fr r r0 g S.g ∧ ∃ z : Int, d = .int z ∧ 0 ≤ z ∧ z < many := by
  obtain ⟨⟨xs, a, n, k, e1, e2, ha, hn, hnc, hk, hk2⟩, hne, l1, l2⟩ := s
  have hne' : r0 ≠ r := fun h => hne h.symm
  unfold m_l_draw
  rw [ok_runF]
  unfold b_l_draw
  simp [slots, ok_seqM, ok_ixM, ok_hdN, vw_boxI, e1, ok_ixPI, at4_2, ok_plN, set4_2, List.replicate]
  refine Ok.imp (Q := fun f S => f = Fl.nx ∧ ∃ l, DrI g r r0 many (n + 1) l S) (ok_whM (DrI g r r0 many (n + 1)) xs.length ⟨.emp, xs, a, k, rfl, rfl, by rw [put_cs, if_pos rfl], by rw [put_cs, if_neg hne']; exact e2, ha, hk, hk2, fr_put (.refl g)⟩ ?_) ?_
  · rintro l ⟨sl, g1⟩ ⟨y, ys, a, k, rfl, rfl, e1, e2, ha, hk, hk2, f⟩
    have e1 : g1.cs r = some (.lst [.box r0, .int a, .int (n + 1), .int k]) := e1
    have e2 : g1.cs r0 = some (.lst (ys.map D.int)) := e2
    have f : Fr r r0 g g1 := f
    simp [ok_andM, ok_ixM, ok_hdN, vw_boxI, e1, e2, ok_ixPI, at4_0, at4_1, ok_eqHM, pyV, pyDs_ints, pyDs, eqP, SeqAt.shaped, PyData.canLay0, PyData.depth, canLay_ints, depthAll_ints, PyData.depthAll, PyData.canLayAll0]
    cases ys with
    | nil =>
      simp [PyData.eqv, PyData.eqvAll]
      exact ⟨_, _, [], a, k, rfl, rfl, e1, e2, ha, hk, hk2, f⟩
    | cons x ys =>
      simp [PyData.eqv, PyData.eqvAll]
      split
      · simp [ok_seqM, ok_v1, ok_mutM, ok_ixM, ok_hdN, vw_boxI, e1, e2, ok_ixPI, at4_0, popAt0, ok_rd, put_cs, hne, hne', at4_3, ok_plN, set4_3]
        refine ⟨cmulW_of (a := 31) (b := 13) (by omega) (by decide) (by decide), ?_⟩
        have hcell : 0 ≤ (if x < 0 then -x else x) := by split <;> omega
        generalize (if x < 0 then -x else x) = cell at hcell ⊢
        simp [ok_ifM, ok_rd, ok_plN, put_cs, set4_1, CPow]
        have hm0 := Int.emod_nonneg ((k * 8191 + cell) + 3) (show (2147483647 : Int) ≠ 0 by decide)
        have hm1 := Int.emod_lt_of_pos ((k * 8191 + cell) + 3) (show (0 : Int) < 2147483647 by decide)
        have fin : ∀ a' : Int, 0 ≤ a' → ∃ m, m < ys.length + 1 ∧ DrI g r r0 many (n + 1) m ⟨[.val (.box r), .val (.int many), .val (.int cell), .emp, .emp],
            ((g1.put r0 (.lst (ys.map D.int))).put r (.lst [.box r0, .int a, .int (n + 1), .int ((k * 8191 + cell + 3) % 2147483647)])).put r (.lst [.box r0, .int a', .int (n + 1), .int ((k * 8191 + cell + 3) % 2147483647)])⟩ := fun a' ha' =>
          ⟨ys.length, Nat.lt_succ_self _, _, ys, a', _, rfl, rfl, by simp [put_cs], by simp [put_cs, hne'], ha', hm0, hm1, fr_put (fr_put (fr_put0 f))⟩
        split
        · exact fin cell hcell
        · exact fin 0 (by decide)
      · exact ⟨_, _, x :: ys, a, k, rfl, rfl, e1, e2, ha, hk, hk2, f⟩
  · rintro fl ⟨sl, g1⟩ ⟨rfl, l, y, ys, a, k, rfl, rfl, e1, e2, ha, hk, hk2, f⟩
    have e1 : g1.cs r = some (.lst [.box r0, .int a, .int (n + 1), .int k]) := e1
    have e2 : g1.cs r0 = some (.lst (ys.map D.int)) := e2
    have f : Fr r r0 g g1 := f
    simp [ok_seqM, ok_ifM, ok_ixM, ok_hdN, vw_boxI, e1, e2, ok_ixPI, at4_1, ok_v1, ok_rd, ok_plN, set4_1, at4_3, at4_2]
    split
    · rename_i hpos
      refine ⟨by omega, ⟨by omega, ?_⟩, ⟨⟨ys, a / many, n + 1, k, by simp [put_cs], by simp [put_cs, hne', e2], Int.ediv_nonneg ha (by omega), by omega, by omega, hk, hk2⟩, hne, Nat.lt_of_lt_of_le l1 f.nx, Nat.lt_of_lt_of_le l2 f.nx⟩, fr_put f, Int.emod_nonneg _ (by omega), Int.emod_lt_of_pos _ (by omega)⟩
      have : many.natAbs < 2 ^ 63 := by omega
      have := log2_le this
      omega
    · have hn1 : n + 1 ≤ 100000000000001 := by omega
      have p1 : CMulW 7919 (n + 1) := cmulW_of (a := 13) (b := 47) (by decide) (by omega) (by decide)
      have p2 : CPow (k + 7919 * (n + 1) + 104729) 5 := ⟨by decide, by decide, by omega⟩
      have hm0 := Int.emod_nonneg ((k + 7919 * (n + 1) + 104729) ^ 5) (show (2147483629 : Int) ≠ 0 by decide)
      have hm1 := Int.emod_lt_of_pos ((k + 7919 * (n + 1) + 104729) ^ 5) (show (0 : Int) < 2147483629 by decide)
      generalize (k + 7919 * (n + 1) + 104729) ^ 5 % 2147483629 = mixed at hm0 hm1
      exact ⟨p1, p2, cmulW_of (a := 31) (b := 16) (by omega) (by decide) (by decide), cmulW_of (a := 15) (b := 47) (by decide) (by omega) (by decide), ⟨by decide, by decide, by omega⟩, by omega,
        ⟨⟨ys, a, n + 1, k, e1, e2, ha, by omega, by omega, hk, hk2⟩, hne, Nat.lt_of_lt_of_le l1 f.nx, Nat.lt_of_lt_of_le l2 f.nx⟩, f, Int.emod_nonneg _ (by omega), Int.emod_lt_of_pos _ (by omega)⟩
end Lw
end

section
/-! Pd: the stream made; things mixed. -/
namespace Lw
open PySem L2 Mm
theorem stream_ok {g : G} {ns : List Int} : Ok (m_l_stream [.scr ns] ⟨[], g⟩) fun d S => S.sl = [] ∧ St S.g (g.nx + 1) g.nx 0 ∧ d = .box (g.nx + 1) ∧ S.g.nx = g.nx + 2 := by
  unfold m_l_stream
  rw [ok_runF]
  unfold b_l_stream
  simp [slots, ok_rd, scrF, add_nx]
  refine ⟨by decide, ⟨⟨ns, 0, 0, 17, by simp [add_cs, add_nx], by simp [add_cs, add_nx], by decide, by decide, by decide, by decide, by decide⟩, by omega, by simp [add_nx], by simp [add_nx]; omega⟩⟩
theorem vwD_sl {sl sl' : List Slot} {g : G} {d : D} : vwD ⟨sl, g⟩ d = vwD ⟨sl', g⟩ d := by cases d <;> rfl
theorem rngD_len {lo : Int} {n : Nat} : (rngD lo n).length = n := by simp [rngD]
theorem popAtZ {xs : List D} {z : Int} (h0 : 0 ≤ z) (h1 : z < xs.length) (hs : xs.length ≤ sizeLine) : ∃ d, xs[z.toNat]? = some d ∧ popAtF [.int z] xs = some (d, xs.eraseIdx z.toNat) := by
  have hl := line63
  have hlt : z.toNat < xs.length := by omega
  refine ⟨xs[z.toNat], List.getElem?_eq_getElem hlt, ?_⟩
  show (if -(2 ^ 63) ≤ z ∧ z < 2 ^ 63 then (match seqIndex? z xs.length with
    | some k => match xs[k]? with | some d => some (d, xs.eraseIdx k) | none => none
    | none => none) else none) = _
  rw [if_pos ⟨by omega, by omega⟩, seqIndex_of h0 h1]
  simp only [List.getElem?_eq_getElem hlt]
theorem perm_erase {α : Type} : ∀ {xs : List α} {i : Nat} {d : α}, xs[i]? = some d → (d :: xs.eraseIdx i).Perm xs
  | [], i, d, h => by simp at h
  | x :: xs, 0, d, h => by simp at h; subst h; exact .refl _
  | x :: xs, i + 1, d, h => by
    have ih := perm_erase (xs := xs) (i := i) (d := d) (by simpa using h)
    rw [List.eraseIdx_cons_succ]
    exact (List.Perm.swap x d _).trans (ih.cons x)
theorem Fr.keep {r r0 : Nat} {g g' : G} {q : Nat} {x : Cell} (f : Fr r r0 g g') (h : g.cs q = some x) (hq : q < g.nx) (h1 : q ≠ r) (h2 : q ≠ r0) : g'.cs q = some x := (f.cs q hq h1 h2).trans h
theorem mixed_ok {g : G} {r r0 : Nat} {c : Int} {T : D} {b : Bool} {xs : List D} (s : St g r r0 c) (hT : vwD ⟨[], g⟩ T = some (b, xs)) (hl : xs.length < sizeLine) (hc : c + xs.length ≤ 100000000000000) :
    Ok (m_l_mixed [.box r, T] ⟨[], g⟩) fun d S => S.sl = [] ∧ St S.g r r0 (c + xs.length) ∧ Fr r r0 g S.g ∧ ∃ (ys : List D) (q : Nat), ys.Perm xs ∧ d = .box q ∧ g.nx ≤ q ∧ q < S.g.nx ∧ S.g.cs q = some (.lst ys) := by
  have hsl := sizeLine_eq
  unfold m_l_mixed
  rw [ok_runF]
  unfold b_l_mixed
  have hT' : ∀ sl, vwD ⟨sl, g⟩ T = some (b, xs) := fun sl => by rw [vwD_sl (sl' := [])]; exact hT
  have hv : ∀ sl, vwH ⟨sl, g⟩ (.d T) = some (b, xs) := hT'
  simp [slots, ok_seqM, ok_hdN, hv, vw_slI, ok_rng1]
  refine ⟨by omega, ?_⟩
  refine Ok.imp (Q := fun f S => f = Fl.nx ∧ ∃ (found : List D) (x4 : Slot), found.Perm xs ∧ S.sl = [.val (.box r), .val T, .own (.lst []), .own (.lst found), x4] ∧ St S.g r r0 (c + xs.length) ∧ Fr r r0 g S.g) ?_ ?_
  · refine ok_forM (fun i S => ∃ (left found : List D) (x4 : Slot), left.length + i = xs.length ∧ found.length = i ∧ (found ++ left).Perm xs ∧ S.sl = [.val (.box r), .val T, .own (.lst left), .own (.lst found), x4] ∧ St S.g r r0 (c + i) ∧ Fr r r0 g S.g)
      (fun _ _ _ _ => trivial) ⟨xs, [], .emp, rfl, rfl, .refl _, rfl, by simpa using s, .refl g⟩ ?_ ?_
    · rintro i d ⟨sl, g1⟩ hd ⟨left, found, x4, h1, h2, h3, rfl, s1, f1⟩
      obtain ⟨hi, rfl⟩ := rngD_get hd
      have s1 : St g1 r r0 (c + i) := s1
      have f1 : Fr r r0 g g1 := f1
      refine ⟨_, asg_nm, ?_⟩
      simp [ok_mutM, ok_plN, ok_callM, ok_rd, ok_hdN, vw_slI, getP]
      refine (draw_ok (many := left.length) s1 (by omega) (by omega) (by omega)).imp ?_
      rintro _ ⟨_, g2⟩ ⟨_, s2, f2, z, rfl, z0, z1⟩
      have s2 : St g2 r r0 (c + i + 1) := s2
      have f2 : Fr r r0 g1 g2 := f2
      obtain ⟨d, hd, hp⟩ := popAtZ z0 z1 (by omega)
      have hp2 := perm_erase hd
      have hlen := hp2.length_eq
      simp only [List.length_cons] at hlen
      simp [hp, appF]
      rw [if_pos (by omega)]
      rw [onO_some]
      refine ⟨left.eraseIdx z.toNat, by omega, found ++ [d], by simp; omega, ?_, ⟨rfl, rfl⟩, ?_, f1.trans f2⟩
      · refine .trans ?_ h3
        rw [List.append_assoc]
        exact List.Perm.append_left _ hp2
      · have e : c + ((i : Int) + 1) = c + i + 1 := by omega
        rw [e]; exact s2
    · rintro ⟨sl, g1⟩ ⟨left, found, x4, h1, h2, h3, rfl, s1, f1⟩
      have h1 : left.length + (rngD 0 xs.length).length = xs.length := h1
      have s9 : St g1 r r0 (c + ((rngD 0 xs.length).length : Nat)) := s1
      rw [rngD_len] at h1 s9
      have e : left = [] := List.length_eq_zero_iff.mp (by omega)
      subst e
      rw [List.append_nil] at h3
      exact ⟨rfl, found, x4, h3, rfl, s9, f1⟩
  · rintro fl ⟨sl, g1⟩ ⟨rfl, found, x4, hp, rfl, s1, f1⟩
    have s1 : St g1 r r0 (c + xs.length) := s1
    have f1 : Fr r r0 g g1 := f1
    simp [ok_rdB, add_nx]
    obtain ⟨⟨xs', a, n, k, e1, e2, h⟩, hne, l1, l2⟩ := s1
    refine ⟨⟨⟨xs', a, n, k, by rw [add_cs, if_neg (by omega)]; exact e1, by rw [add_cs, if_neg (by omega)]; exact e2, h⟩, hne, by rw [add_nx]; omega, by rw [add_nx]; omega⟩, ⟨by rw [add_nx]; have := f1.nx; omega, fun q h1 h2 h3 => by rw [add_cs, if_neg (by have := f1.nx; omega)]; exact f1.cs q h1 h2 h3⟩, found, hp, f1.nx, by rw [add_cs, if_pos rfl]⟩
end Lw
end

section
/-! Pe: drawn rows; rows once; rows shifted. -/
namespace Lw
open PySem L2 Mm

/-- a row of gates below n -/
structure Rw (n : Int) (row : List Int) : Prop where
  ne : row ≠ []
  nd : row.Nodup
  bd : ∀ z ∈ row, 0 ≤ z ∧ z < n
/-- unlike rows -/
structure Rws (n : Int) (rs : List (List Int)) : Prop where
  nd : rs.Nodup
  rw : ∀ row ∈ rs, Rw n row
theorem pig : ∀ (n : Nat) (xs : List Int), xs.Nodup → (∀ z ∈ xs, 0 ≤ z ∧ z < (n : Int)) → xs.length ≤ n
  | 0, [], _, _ => Nat.le_refl _
  | 0, x :: xs, _, h => by have := h x (by simp); omega
  | n + 1, xs, hn, h => by
    by_cases m : (n : Int) ∈ xs
    · have ih := pig n (xs.erase n) (hn.erase _) fun z hz => by
        rw [hn.mem_erase_iff] at hz
        have := h z hz.2
        have := hz.1
        omega
      rw [List.length_erase_of_mem m] at ih
      omega
    · have ih := pig n xs hn fun z hz => by
        have := h z hz
        have : z ≠ n := fun e => m (e ▸ hz)
        omega
      omega
theorem Rw.len {n : Int} {row : List Int} (h : Rw n row) : (row.length : Int) ≤ n := by
  have h0 : 0 ≤ n := by
    obtain ⟨z, zs, e⟩ := List.exists_cons_of_ne_nil h.ne
    have := h.bd z (by rw [e]; simp)
    omega
  have := pig n.toNat row h.nd fun z hz => by have := h.bd z hz; omega
  omega
theorem Rw.mono {n m : Int} {row : List Int} (h : Rw n row) (l : n ≤ m) : Rw m row := ⟨h.ne, h.nd, fun z hz => by have := h.bd z hz; omega⟩
/-- 0 .. n-1 -/
def rngI (n : Nat) : List Int := (List.range n).map Int.ofNat
theorem rngI_mem {n : Nat} {z : Int} : z ∈ rngI n ↔ 0 ≤ z ∧ z < n := by
  simp only [rngI, List.mem_map, List.mem_range]
  constructor
  · rintro ⟨k, h, rfl⟩
    exact ⟨by simp, by simpa using h⟩
  · rintro ⟨h1, h2⟩
    exact ⟨z.toNat, by omega, by simp; omega⟩
theorem rngI_nd {n : Nat} : (rngI n).Nodup := by
  unfold rngI
  refine List.Pairwise.map _ ?_ List.nodup_range
  intro a b h e
  exact h (Int.ofNat.inj e)
theorem rngI_len {n : Nat} : (rngI n).length = n := by simp [rngI]
theorem rngD_I {n : Nat} : rngD 0 n = (rngI n).map D.int := by
  unfold rngD rngI
  rw [List.map_map]
  refine List.map_congr_left fun k _ => ?_
  simp
/-- a permutation of ints is one -/
theorem perm_map {α β : Type} {f : α → β} : ∀ {ys : List β} {xs : List α}, ys.Perm (xs.map f) → ∃ zs : List α, ys = zs.map f ∧ zs.Perm xs := by
  intro ys xs h
  generalize e : xs.map f = zs at h
  induction h generalizing xs with
  | nil => exact ⟨[], rfl, by cases xs with | nil => exact .nil | cons => simp at e⟩
  | cons x h ih =>
    rename_i l1 l2
    cases xs with
    | nil => simp at e
    | cons y ys =>
      simp at e
      obtain ⟨zs, h1, h2⟩ := ih e.2
      exact ⟨y :: zs, by simp [h1, e.1], h2.cons y⟩
  | swap x y l =>
    cases xs with
    | nil => simp at e
    | cons a xs =>
      cases xs with
      | nil => simp at e
      | cons b xs =>
        simp at e
        exact ⟨b :: a :: xs, by simp [e.1, e.2.1, e.2.2], List.Perm.swap a b xs⟩
  | trans h1 h2 ih1 ih2 =>
    obtain ⟨zs, k1, k2⟩ := ih2 e
    obtain ⟨ws, k3, k4⟩ := ih1 k1.symm
    exact ⟨ws, k3, k4.trans k2⟩
theorem St.del {g : G} {r r0 q : Nat} {c : Int} (s : St g r r0 c) (h1 : q ≠ r) (h2 : q ≠ r0) : St (g.del q) r r0 c := by
  obtain ⟨⟨xs, a, n, k, e1, e2, h⟩, hne, l1, l2⟩ := s
  exact ⟨⟨xs, a, n, k, by rw [del_cs', if_neg (fun e => h1 e.symm)]; exact e1, by rw [del_cs', if_neg (fun e => h2 e.symm)]; exact e2, h⟩, hne, l1, l2⟩
theorem Fr.del {r r0 q : Nat} {g g' : G} (f : Fr r r0 g g') (h : g.nx ≤ q) : Fr r r0 g (g'.del q) := ⟨f.nx, fun p h1 h2 h3 => by rw [del_cs', if_neg (by omega)]; exact f.cs p h1 h2 h3⟩
theorem St.add {g : G} {r r0 : Nat} {c : Int} {x : Cell} (s : St g r r0 c) : St (g.add x) r r0 c := by
  obtain ⟨⟨xs, a, n, k, e1, e2, h⟩, hne, l1, l2⟩ := s
  exact ⟨⟨xs, a, n, k, by rw [add_cs, if_neg (by omega)]; exact e1, by rw [add_cs, if_neg (by omega)]; exact e2, h⟩, hne, by rw [add_nx]; omega, by rw [add_nx]; omega⟩
theorem Fr.add {r r0 : Nat} {g g' : G} {x : Cell} (f : Fr r r0 g g') : Fr r r0 g (g'.add x) := ⟨by rw [add_nx]; have := f.nx; omega, fun p h1 h2 h3 => by rw [add_cs, if_neg (by have := f.nx; omega)]; exact f.cs p h1 h2 h3⟩
theorem St.put {g : G} {r r0 q : Nat} {c : Int} {x : Cell} (s : St g r r0 c) (h1 : q ≠ r) (h2 : q ≠ r0) : St (g.put q x) r r0 c := by
  obtain ⟨⟨xs, a, n, k, e1, e2, h⟩, hne, l1, l2⟩ := s
  exact ⟨⟨xs, a, n, k, by rw [put_cs, if_neg (fun e => h1 e.symm)]; exact e1, by rw [put_cs, if_neg (fun e => h2 e.symm)]; exact e2, h⟩, hne, l1, l2⟩
theorem Fr.put {r r0 q : Nat} {g g' : G} {x : Cell} (f : Fr r r0 g g') (h : g.nx ≤ q) : Fr r r0 g (g'.put q x) := ⟨f.nx, fun p h1 h2 h3 => by rw [put_cs, if_neg (by omega)]; exact f.cs p h1 h2 h3⟩
theorem ok_rngC1 {Q : Cell → Sg → Prop} {S : Sg} {j : Int} (h : 0 ≤ j) (h2 : j ≤ 16777216) (q : Q (.lst (rngD 0 j.toNat)) S) : Ok (rngC1 (.int j) S) Q := by
  show Ok ((if 0 ≤ (0 : Int) ∧ (0 : Int) ≤ 16777216 ∧ 0 ≤ j ∧ j ≤ 16777216 then ret (.lst (rngD 0 (j - 0).toNat)) else nope : M Cell) S) Q
  rw [if_pos ⟨by decide, by decide, h, h2⟩, Int.sub_zero]
  exact ok_ret.mpr q
end Lw
end

section
/-! MmCh: {x: v for x in ints}, ints that may come twice. -/
namespace Mm
open PySem L2
def insI (acc : List Int) (m : Int) : List Int := if m ∈ acc then acc else acc ++ [m]
def nubI (ns : List Int) : List Int := ns.foldl insI []
theorem ins_len {acc : List Int} {m : Int} : (insI acc m).length ≤ acc.length + 1 := by
  unfold insI
  split <;> simp
theorem fold_len {ns : List Int} : ∀ {acc : List Int}, (ns.foldl insI acc).length ≤ acc.length + ns.length := by
  induction ns with
  | nil => intro acc; simp
  | cons n ns ih =>
    intro acc
    rw [List.foldl_cons]
    have h1 := ih (acc := insI acc n)
    have h2 := ins_len (acc := acc) (m := n)
    rw [List.length_cons]
    omega
theorem put_ins {v : D} {acc : List Int} {m : Int} : putA (acc.map fun z => ((Sum.inl z : Key), v)) (Sum.inl m) v = (insI acc m).map fun z => ((Sum.inl z : Key), v) := by
  by_cases h : m ∈ acc
  · unfold putA insI
    rw [if_pos h, if_pos, List.map_map]
    · refine List.map_congr_left fun z hz => ?_
      show (if (Sum.inl z : Key) = Sum.inl m then _ else _) = _
      split <;> rfl
    · rw [List.any_eq_true]
      exact ⟨_, List.mem_map.mpr ⟨m, h, rfl⟩, by simp⟩
  · rw [putA_new, insI, if_neg h, List.map_append]
    · rfl
    · intro k
      rw [List.map_map] at k
      obtain ⟨z, hz, e⟩ := List.mem_map.mp k
      have e : z = m := by simpa using e
      subst e
      exact h hz
theorem ok_dcInts2 {src : M Src} {S0 : Sg} {sl : List Slot} {g : G} {n : Nat} {v : D} {Q : Cell → Sg → Prop} {ns : List Int} {ok : Sg → Prop} (hs : ∀ P : Src → Sg → Prop, P ⟨ns.map D.int, ok⟩ ⟨sl, g⟩ → Ok (src S0) P) (hn : n < sl.length) (hno : noOwn sl [n] = true)
    (hok : ok ⟨sl, g⟩) (hl : ns.length ≤ sizeLine) (q : Q (.dK ((nubI ns).map fun z => (Sum.inl z, v))) ⟨sl, g⟩) : Ok (dcM src (.nm n) [n] yesM (rd n) (ret v) S0) Q := by
  unfold dcM
  rw [ok_bd]
  refine hs _ ?_
  rw [if_pos ⟨hno, fun i hi => by simpa only [Tg.ix] using hi⟩, ok_bind]
  simp only [ok_ret]
  have go : ∀ (ms : List Int) (pre : List Int), pre.length + ms.length ≤ sizeLine → ms.foldl insI pre = nubI ns → Ok (dcG (.nm n) [n] yesM (rd n) (ret v) ok (ms.map D.int) (pre.map fun z => (Sum.inl z, v)) ⟨sl, g⟩) fun acc S => Q (.dK acc) S := by
    intro ms
    induction ms with
    | nil =>
      intro pre _ e
      have e : pre = nubI ns := e
      subst e
      simp only [List.map_nil, dcG, if_pos hok]
      exact ok_ok.mpr q
    | cons m ms ih =>
      intro pre hle e
      have e1 : asg (.nm n) (.int m) (inner [n] ⟨sl, g⟩) = some ⟨sl.set n (.val (.int m)), g⟩ := by simp only [asg]; exact congrArg some inner1
      have e2 : rd n ⟨sl.set n (.val (.int m)), g⟩ = .ok (.int m) ⟨sl.set n (.val (.int m)), g⟩ := by
        unfold rd
        simp only [List.getElem?_set_self hn]
      have e3 : (yesM ⟨sl.set n (.val (.int m)), g⟩ : R Bool) = .ok true ⟨sl.set n (.val (.int m)), g⟩ := rfl
      have e4 : outer [n] ⟨sl, g⟩ ⟨sl.set n (.val (.int m)), g⟩ = ⟨sl, g⟩ := outer1 hn
      rw [List.length_cons] at hle
      have hlt : pre.length < sizeLine := by omega
      have hi := ins_len (acc := pre) (m := m)
      have ih2 := ih (insI pre m) (by omega) (by rw [List.foldl_cons] at e; exact e)
      simp only [List.map_cons, dcG, if_pos hok, e1, e3, e2, ret, keyD, List.length_map, if_pos hlt, e4, put_ins]
      exact ih2
  exact go ns [] (by simpa using hl) rfl
end Mm
end

local macro_rules
  | `(tactic| ac_rfl) => `(tactic| first
    | with_reducible refine Mm.ok_bd.mpr ?_
    | with_reducible refine Mm.ok_ret.mpr ?_
    | with_reducible refine Mm.ok_callM.mpr ?_
    | with_reducible refine Mm.ok_callK.mpr ?_
    | with_reducible refine Mm.ok_consM.mpr ?_
    | with_reducible refine Mm.ok_nilM.mpr ?_
    | with_reducible refine Mm.ok_seqM.mpr ?_
    | with_reducible refine Mm.seqQ_nx.mpr ?_
    | with_reducible refine Mm.seqQ_rt.mpr ?_
    | with_reducible refine Mm.endQ_rt.mpr ?_
    | with_reducible refine Mm.endQ_nx.mpr ?_
    | with_reducible refine Mm.ok_setM.mpr ?_
    | with_reducible refine Mm.ok_ownM.mpr ?_
    | with_reducible refine Mm.ok_retM.mpr ?_
    | with_reducible refine Mm.ok_exprM.mpr ?_
    | with_reducible refine Mm.ok_ifM.mpr ?_
    | with_reducible refine Mm.ok_asB.mpr ?_
    | with_reducible refine Mm.ok_bop.mpr ?_
    | with_reducible refine Mm.ok_bopT.mpr ?_
    | with_reducible refine Mm.ok_addI.mpr ?_
    | with_reducible refine Mm.ok_subI.mpr ?_
    | with_reducible refine Mm.ok_ltI.mpr ?_
    | with_reducible refine Mm.ok_leI.mpr ?_
    | with_reducible refine Mm.ok_gtI.mpr ?_
    | with_reducible refine Mm.ok_geI.mpr ?_
    | with_reducible refine Mm.ok_eqI.mpr ?_
    | with_reducible refine Mm.ok_neI.mpr ?_
    | with_reducible refine Mm.ok_eqR.mpr ?_
    | with_reducible refine Mm.ok_neR.mpr ?_
    | with_reducible refine Mm.ok_eqRs.mpr ?_
    | with_reducible refine Mm.ok_eqB.mpr ?_
    | with_reducible refine Mm.ok_neB.mpr ?_
    | with_reducible refine Mm.ok_notM.mpr ?_
    | with_reducible refine Mm.ok_andM.mpr ?_
    | with_reducible refine Mm.ok_orM.mpr ?_
    | with_reducible refine Mm.ok_andV.mpr ?_
    | with_reducible refine Mm.ok_orV.mpr ?_
    | with_reducible refine Mm.ok_notV.mpr ?_
    | with_reducible refine Mm.ok_negM.mpr ?_
    | with_reducible refine Mm.ok_isNT.mpr ?_
    | with_reducible refine Mm.ok_notNT.mpr ?_
    | with_reducible refine Lw.ok_v1.mpr ?_
    | with_reducible refine Mm.ok_v2.mpr ?_
    | with_reducible refine Mm.ok_min2F.mpr ?_
    | with_reducible refine Mm.ok_max2F.mpr ?_
    | with_reducible refine Mm.ok_h1.mpr ?_
    | with_reducible refine Mm.ok_h1C.mpr ?_
    | with_reducible refine Mm.ok_lenF.mpr ?_
    | with_reducible refine Mm.ok_listF.mpr ?_
    | with_reducible refine Mm.ok_tupleF.mpr ?_
    | with_reducible refine Mm.ok_frzI.mpr ?_
    | with_reducible refine Mm.ok_frzR.mpr ?_
    | with_reducible refine Mm.ok_frzC.mpr ?_
    | with_reducible refine Mm.ok_boxC.mpr ?_
    | with_reducible refine Mm.ok_lstM.mpr ?_
    | with_reducible refine Mm.ok_tupM.mpr ?_
    | with_reducible refine Mm.ok_hdE.mpr ?_
    | with_reducible refine Mm.ok_inM.mpr ?_
    | with_reducible refine Mm.k_inIf.mpr ?_
    | with_reducible refine Mm.k_inIt.mpr ?_
    | with_reducible refine Mm.k_inRf.mpr ?_
    | with_reducible refine Mm.k_inRt.mpr ?_
    | with_reducible refine Mm.ok_slM.mpr ?_
    | with_reducible refine Mm.ok_catC.mpr ?_
    | with_reducible refine Mm.ok_revC.mpr ?_
    | with_reducible refine Mm.ok_ixM.mpr ?_
    | with_reducible refine Mm.ok_ixPI.mpr ?_
    | with_reducible refine Mm.ok_oint.mpr ?_
    | with_reducible refine Mm.ok_indexM.mpr ?_
    | with_reducible refine Mm.ok_asgM.mpr ?_
    | with_reducible refine Mm.ok_parM.mpr ?_
    | with_reducible refine Mm.ok_pNil.mpr ?_
    | with_reducible refine Mm.ok_pVal.mpr ?_
    | with_reducible refine Mm.ok_pOwn.mpr ?_
    | with_reducible refine Mm.ok_mutM.mpr ?_
    | with_reducible refine Mm.ok_extM.mpr ?_
    | with_reducible refine Mm.ok_setIxM.mpr ?_
    | with_reducible refine Mm.ok_plE.mpr ?_
    | with_reducible refine Mm.ok_fldM.mpr ?_
    | with_reducible refine Mm.isi_of.mpr ?_
    | with_reducible refine Mm.ok_methM.mpr ?_
    | with_reducible refine Mm.ok_makeM.mpr ?_
    | with_reducible refine Mm.ok_makeK.mpr ?_
    | with_reducible refine Mm.ok_getDM.mpr ?_
    | with_reducible refine Mm.ok_inDM.mpr ?_
    | with_reducible refine Mm.ok_isNM.mpr ?_
    | with_reducible refine Mm.onB_bl.mpr ?_
    | with_reducible refine Mm.onI_int.mpr ?_
    | with_reducible refine Mm.onX_box.mpr ?_
    | with_reducible refine Mm.onO_some.mpr ?_
    | with_reducible refine Mm.onL_lst.mpr ?_
    | with_reducible refine Mm.ok_eqOwnM.mpr ?_
    | with_reducible refine Mm.ok_neOwnM.mpr ?_
    | with_reducible refine Lw.ok_intF.mpr ?_
    | ((with_reducible apply Mm.ok_rdv); · exact rfl)
    | ((with_reducible apply Mm.k_rdo); · exact rfl)
    | ((with_reducible apply Mm.k_hdv); · exact rfl)
    | ((with_reducible apply Mm.k_hdo); · exact rfl)
    | ((with_reducible apply Mm.k_plb); · exact rfl)
    | ((with_reducible apply Mm.k_plo); · exact rfl)
    | ((with_reducible apply Mm.onO_of); · first | exact rfl | exact Mm.vw_box (by assumption) | exact Mm.vwD_box (by assumption) | assumption)
    | ((with_reducible apply Mm.onL_of); · first | exact rfl | assumption)
    | ((with_reducible apply Mm.k_items); · first | exact rfl | exact Mm.vwD_box (by assumption) | assumption)
    | ((with_reducible apply Mm.k_enum); · first | exact rfl | exact Mm.vwD_box (by assumption) | assumption)
    | ((with_reducible refine Mm.k_sl ?_ ?_); · exact rfl)
    | with_reducible refine Mm.ite_t ?_
    | with_reducible refine Mm.ite_f ?_
    | with_reducible refine Mm.ite_nt ?_
    | with_reducible refine Mm.ite_nf ?_
    | with_reducible refine Mm.k_len ?_ (by simp)
    | (with_reducible refine Mm.k_exbox ?_)
    | (with_reducible refine Mm.k_anyB ?_)
    | (with_reducible refine Mm.k_allB ?_)
    | (with_reducible refine Mm.k_app ?_ ?_)
    | (with_reducible refine Mm.k_cat ?_ ?_)
    | (with_reducible refine Mm.k_ext ?_ ?_))

section
namespace Lw
open PySem L2 Mm
/-! Rka: k39: basics. -/
theorem nodup_snoc {α : Type} {xs : List α} {x : α} (h : xs.Nodup) (n : x ∉ xs) : (xs ++ [x]).Nodup := by
  rw [List.nodup_append]
  exact ⟨h, by simp, fun a ha b hb e => by simp at hb; subst hb; subst e; exact n ha⟩
theorem map_blX {α : Type} {xs : List α} {h : α → Bool} : xs.map (fun z => D.bl (h z)) = (xs.map h).map D.bl := by rw [List.map_map]; rfl
theorem ok_eqn {α : Type} {r : R α} {a : α} {S : Sg} {Q : α → Sg → Prop} (h : r = .ok a S) : Ok r Q ↔ Q a S := by rw [h]; exact ok_ok
theorem number_ok {g : G} {i : Int} : Ok (m_is_number [.int i] ⟨[], g⟩) fun d S => S.g = g ∧ d = .bl (decide (0 ≤ i)) := by
  unfold m_is_number
  rw [ok_runF]
  unfold b_is_number
  have e : slots 1 [.int i] = [.val (.int i)] := rfl
  rw [e, ok_retM, ok_andV, ok_callM, ok_consM]
  refine ok_rdv rfl ?_
  rw [ok_nilM]
  unfold m_is_integer
  rw [ok_runF]
  unfold b_is_integer
  have e : slots 1 [.int i] = [.val (.int i)] := rfl
  have k1 : "int" ∈ known := by decide
  have k2 : "bool" ∈ known := by decide
  have t1 : isT "int" "int" = true := by decide
  have t2 : isT "int" "bool" = false := by decide
  rw [e, ok_retM, ok_andV, isi_of]
  refine ok_rdv rfl ?_
  rw [ok_ret, ok_eqn (isi_int k1), t1, onB_bl, if_pos rfl, ok_notV, isi_of]
  refine ok_rdv rfl ?_
  rw [ok_ret, ok_eqn (isi_int k2), t2, onB_bl, onB_bl, endQ_rt, onB_bl, if_pos (by decide), ok_bop]
  refine ok_rdv rfl ?_
  rw [ok_ret, ok_geI, onB_bl, endQ_rt]
  exact ⟨rfl, rfl⟩
theorem list_ok {g : G} {d : D} {v : Vw} (h : vwD ⟨[], g⟩ d = some v) : Ok (m_is_list [d] ⟨[], g⟩) fun x S => S.g = g ∧ x = .bl true := by
  have hsl := sizeLine_eq
  unfold m_is_list
  rw [ok_runF]
  unfold b_is_list
  have e : slots 1 [d] = [.val d] := rfl
  have h' : vwD ⟨[.val d], g⟩ d = some v := by rw [vwD_sl (sl' := [])]; exact h
  rw [e, ok_retM, isi_of]
  refine ok_rdv rfl ?_
  simp only [ok_tupM, ok_consM, ok_ret, ok_nilM, ok_eqn (isi_seqs h'), endQ_rt]
  exact ⟨by simp [hsl], trivial, trivial⟩
theorem mem_intsD {ns : List Int} {d : D} (h : d ∈ ns.map D.int) : ∃ z ∈ ns, d = .int z := by
  obtain ⟨row, h1, h2⟩ := List.mem_map.mp h
  exact ⟨row, h1, h2.symm⟩
def ty1 : D → Option String
  | .non => some "NoneType"
  | .bl _ => some "bool"
  | .int _ => some "int"
  | .str _ => some "str"
  | _ => none
theorem isi_flat {S : Sg} {d : D} {a t : String} (h : ty1 d = some a) (ht : t ∈ known) : isiF fns clss [d, .ty t] S = .ok (.bl (isT a t)) S := by
  cases d <;> simp only [ty1, Option.some.injEq, reduceCtorEq] at h <;> subst h <;> simp [isiF, tyD, clD, ht, kitT]
theorem flat_cases {d : D} {a : String} (h : ty1 d = some a) : a = "NoneType" ∨ a = "bool" ∨ a = "int" ∨ a = "str" := by
  cases d <;> simp only [ty1, Option.some.injEq, reduceCtorEq] at h <;> subst h <;> simp
theorem isi_flat2 {S : Sg} {d : D} {a : String} (h : ty1 d = some a) : isiF fns clss [d, .tup [.ty "list", .ty "tuple"]] S = .ok (.bl false) S := by
  have k1 : "list" ∈ known := by decide
  have k2 : "tuple" ∈ known := by decide
  have t1 : isT a "list" = false := by rcases flat_cases h with rfl | rfl | rfl | rfl <;> decide
  have t2 : isT a "tuple" = false := by rcases flat_cases h with rfl | rfl | rfl | rfl <;> decide
  cases d <;> simp only [ty1, Option.some.injEq, reduceCtorEq] at h <;> subst h <;> simp [isiF, tyD, clDs, clD, k1, k2, kitTs, kitT, t1, t2]
theorem isi_flat3 {S : Sg} {d : D} {a : String} (h : ty1 d = some a) : isiF fns clss [d, .tup [.ty "list", .ty "tuple", .ty "dict"]] S = .ok (.bl false) S := by
  have k1 : "list" ∈ known := by decide
  have k2 : "tuple" ∈ known := by decide
  have k3 : "dict" ∈ known := by decide
  have t1 : isT a "list" = false := by rcases flat_cases h with rfl | rfl | rfl | rfl <;> decide
  have t2 : isT a "tuple" = false := by rcases flat_cases h with rfl | rfl | rfl | rfl <;> decide
  have t3 : isT a "dict" = false := by rcases flat_cases h with rfl | rfl | rfl | rfl <;> decide
  cases d <;> simp only [ty1, Option.some.injEq, reduceCtorEq] at h <;> subst h <;> simp [isiF, tyD, clDs, clD, k1, k2, k3, kitTs, kitT, t1, t2, t3]
def EqF (d : D) : Prop := ∀ (S : Sg) (Q : D → Sg → Prop), Q (.bl true) S → Ok (eqM d d S) Q
theorem eqF_int (i : Int) : EqF (.int i) := fun S Q q => by simp [q]
theorem eqF_bl (i : Bool) : EqF (.bl i) := fun S Q q => by simp [q]
theorem eqF_non : EqF .non := fun S Q q => by simp [eqM, eqP, pyD, SeqAt.shaped, PyData.canLay0, PyData.depth, PyData.eqv, q]
theorem eqF_str {x : Str} (h : PyData.strOk x = true) : EqF (.str x) := fun S Q q => by simp [eqM, eqP, pyD, SeqAt.shaped, PyData.canLay0, PyData.depth, PyData.eqv, q, h]
/-- a type is told of it, whatever stands in the frame -/
def TyF (g : G) (d : D) (t : Ty) : Prop := ∀ sl, tyD fns clss ⟨sl, g⟩ d = some t
theorem isi_t {g : G} {sl : List Slot} {d : D} {t : Ty} {n : String} {b : Bool} (h : TyF g d t) (hn : n ∈ known) (hk : kitT t (.bt n) = some b) : isiF fns clss [d, .ty n] ⟨sl, g⟩ = .ok (.bl b) ⟨sl, g⟩ := by
  simp [isiF, h sl, clD, hn, hk]
theorem isi_t2 {g : G} {sl : List Slot} {d : D} {t : Ty} (h : TyF g d t) (h1 : kitT t (.bt "list") = some false) (h2 : kitT t (.bt "tuple") = some false) : isiF fns clss [d, .tup [.ty "list", .ty "tuple"]] ⟨sl, g⟩ = .ok (.bl false) ⟨sl, g⟩ := by
  have k1 : "list" ∈ known := by decide
  have k2 : "tuple" ∈ known := by decide
  simp [isiF, h sl, clDs, clD, k1, k2, kitTs, h1, h2]
theorem ok_itemsE {S : Sg} {P : Pl} {Q : Cell → Sg → Prop} (h : getP P S = some (.dK [])) (q : Q (.lst []) S) : Ok (itemsE P S) Q := by
  unfold itemsE
  rw [h]
  exact ok_ok.mpr q
/-- same all the way down -/
inductive SameR (g : G) : Nat → D → D → Prop
  | flat (k : Nat) (f d : D) (a : String) (e : f = d) (h : ty1 d = some a) (he : EqF d) : SameR g (k + 1) f d
  | seq (k : Nat) (f d : D) (b : Bool) (fs ds : List D) (h1 : vwD ⟨[], g⟩ f = some (b, fs)) (h2 : vwD ⟨[], g⟩ d = some (b, ds)) (hl : fs.length = ds.length) (hs : fs.length ≤ 100000) (ex : ∀ (i : Nat) (x y : D), fs[i]? = some x → ds[i]? = some y → SameR g k x y) : SameR g (k + 1) f d
  | emp (k : Nat) (r r' : Nat) (h1 : g.cs r = some (.dK [])) (h2 : g.cs r' = some (.dK [])) : SameR g (k + 2) (.box r) (.box r')
theorem SameR.int {g : G} (k : Nat) (i : Int) : SameR g (k + 1) (.int i) (.int i) := .flat k _ _ "int" rfl rfl (eqF_int i)
theorem SameR.non {g : G} (k : Nat) : SameR g (k + 1) .non .non := .flat k _ _ _ rfl rfl eqF_non
theorem SameR.bl {g : G} (k : Nat) (i : Bool) : SameR g (k + 1) (.bl i) (.bl i) := .flat k _ _ "bool" rfl rfl (eqF_bl i)
def SaI (g : G) (f d : D) (i : Nat) (acc : List D) (S : Sg) : Prop := S.g = g ∧ S.sl = [.val f, .val d, .emp, .emp] ∧ acc = (List.replicate i true).map D.bl
theorem same_ok {g : G} : ∀ (k fuel : Nat) (f d : D), SameR g k f d → k ≤ fuel → Ok (m_l_same fuel [f, d] ⟨[], g⟩) fun x S => S.g = g ∧ x = .bl true := by
  have hsl := sizeLine_eq
  intro k
  induction k with
  | zero => intro fuel f d h; cases h
  | succ k ih =>
    intro fuel f d h hk
    obtain ⟨n, rfl⟩ := Nat.exists_eq_succ_of_ne_zero (by omega : fuel ≠ 0)
    have e : m_l_same (n + 1) = runF 4 (b_l_same (m_l_same n)) := rfl
    rw [Nat.succ_eq_add_one, e, ok_runF]
    unfold b_l_same
    have kb : "bool" ∈ known := by decide
    have kd : "dict" ∈ known := by decide
    cases h with
    | flat _ _ _ a e hd he =>
      subst e
      have e : slots 4 [f, f] = [.val f, .val f, .emp, .emp] := rfl
      have td : isT a "dict" = false := by rcases flat_cases hd with rfl | rfl | rfl | rfl <;> decide
      rw [e]
      repeat ac_rfl
      rw [ok_eqn (isi_flat2 hd)]
      repeat ac_rfl
      rw [ok_eqn (isi_flat hd kd), td]
      repeat ac_rfl
      rw [ok_eqn (isi_flat hd kb)]
      by_cases hb : a = "bool"
      · subst hb
        have tb : isT "bool" "bool" = true := by decide
        rw [tb]
        repeat ac_rfl
        rw [ok_eqn (isi_flat hd kb), tb]
        repeat ac_rfl
        rw [ok_eqn (isi_flat hd kb), tb]
        repeat ac_rfl
        refine he _ _ ?_
        repeat ac_rfl
        exact ⟨rfl, rfl⟩
      · have tb : isT a "bool" = false := by rcases flat_cases hd with rfl | rfl | rfl | rfl <;> first | decide | exact absurd rfl hb
        rw [tb]
        repeat ac_rfl
        rw [ok_eqn (isi_flat hd kb), tb]
        repeat ac_rfl
        rw [ok_eqn (isi_flat3 hd)]
        repeat ac_rfl
        refine he _ _ ?_
        repeat ac_rfl
        exact ⟨rfl, rfl⟩
    | emp k' r r' h1 h2 =>
      have t1 : TyF g (.box r) (.bt "dict") := fun sl => by simp [tyD, h1]
      have t2 : TyF g (.box r') (.bt "dict") := fun sl => by simp [tyD, h2]
      have e : slots 4 [.box r, .box r'] = [.val (.box r), .val (.box r'), .emp, .emp] := rfl
      rw [e]
      repeat ac_rfl
      rw [ok_eqn (isi_t2 t2 (by decide) (by decide))]
      repeat ac_rfl
      rw [ok_eqn (isi_t t2 kd (b := true) (by decide))]
      repeat ac_rfl
      rw [ok_eqn (isi_t t1 kd (b := true) (by decide))]
      repeat ac_rfl
      refine ok_itemsE h1 ?_
      repeat ac_rfl
      refine ok_itemsE h2 ?_
      repeat ac_rfl
      refine (ih n (.lst []) (.lst []) (.seq k' _ _ true [] [] rfl rfl rfl (by simp) (fun i x y e => by simp at e)) (by omega)).imp ?_
      rintro x ⟨_, g2⟩ ⟨e3, rfl⟩
      have e3 : g2 = g := e3
      subst e3
      repeat ac_rfl
      exact ⟨rfl, rfl⟩
    | seq _ _ _ b fs ds h1 h2 hl hs ex =>
      have e : slots 4 [f, d] = [.val f, .val d, .emp, .emp] := rfl
      have h1' : ∀ sl, vwD ⟨sl, g⟩ f = some (b, fs) := fun sl => by rw [vwD_sl (sl' := [])]; exact h1
      have h2' : ∀ sl, vwD ⟨sl, g⟩ d = some (b, ds) := fun sl => by rw [vwD_sl (sl' := [])]; exact h2
      have kl : "list" ∈ known := by decide
      have kt : "tuple" ∈ known := by decide
      rw [e, ok_seqM, ok_ifM, ok_bd, isi_of]
      refine ok_rdv rfl ?_
      simp only [ok_tupM, ok_consM, ok_ret, ok_nilM, ok_eqn (isi_seqs (h2' _)), ok_asB]
      refine ⟨by simp [hsl], ?_⟩
      rw [if_pos trivial, ok_seqM, ok_ifM, ok_orM, ok_bopT, isi_of]
      refine ok_rdv rfl ?_
      rw [ok_ret, ok_eqn (isi_seq (h1' _) kl), isi_of]
      refine ok_rdv rfl ?_
      rw [ok_ret, ok_eqn (isi_seq (h2' _) kl), ok_neB, ok_asB, if_neg (by simp), ok_bopT, isi_of]
      refine ok_rdv rfl ?_
      rw [ok_ret, ok_eqn (isi_seq (h1' _) kt), isi_of]
      refine ok_rdv rfl ?_
      rw [ok_ret, ok_eqn (isi_seq (h2' _) kt), ok_neB, ok_asB, if_neg (by simp), ok_ret, seqQ_nx, ok_retM, ok_andV, ok_bop, ok_h1, ok_hdN]
      refine ⟨_, h1' _, ?_⟩
      simp only [ok_lenF, ok_h1]
      rw [ok_hdN]
      refine ⟨_, h2' _, ?_⟩
      simp only [ok_lenF, ok_eqI, onB_bl]
      rw [if_pos (by simp [hl]), ok_hdE, ok_bd]
      refine ok_lcM ?_
      rw [ok_bd]
      refine ok_rdv rfl ?_
      rw [ok_bd]
      refine ok_rdv rfl ?_
      have ez : ∀ sl, zipS f d ⟨sl, g⟩ = .ok ⟨zipD fs ds, fun S' => vwD S' f = some (b, fs) ∧ vwD S' d = some (b, ds)⟩ ⟨sl, g⟩ := fun sl => by
        unfold zipS
        simp only [h1', h2', if_true]
      rw [ok_eqn (ez _)]
      have hzl : (zipD fs ds).length = fs.length := by unfold zipD; rw [List.length_zipWith]; omega
      refine ⟨⟨rfl, by simp [Tg.ix, Tg.ixs]⟩, SaI g f d, ?_, ⟨rfl, rfl, rfl⟩, ?_, ?_⟩
      · rintro i acc ⟨sl, g'⟩ _ ⟨e1, e2, _⟩
        have e1 : g' = g := e1
        subst e1
        exact ⟨h1' sl, h2' sl⟩
      · rintro i p acc ⟨sl, g'⟩ hp ⟨e1, e2, rfl⟩
        have e1 : g' = g := e1
        subst e1
        have e2 : sl = [.val f, .val d, .emp, .emp] := e2
        subst e2
        have hp : (zipD fs ds)[i]? = some p := hp
        have hi : i < fs.length := by rw [← hzl]; exact (List.getElem?_eq_some_iff.mp hp).1
        have ef : fs[i]? = some fs[i] := List.getElem?_eq_getElem hi
        have ed : ds[i]? = some (ds[i]'(by omega)) := List.getElem?_eq_getElem (by omega)
        have epp : p = .tup [fs[i], ds[i]'(by omega)] := by
          unfold zipD at hp
          rw [List.getElem?_zipWith, ef, ed] at hp
          simp at hp
          exact hp.symm
        subst epp
        refine ⟨⟨[.val f, .val d, .val fs[i], .val (ds[i]'(by omega))], g'⟩, rfl, ?_⟩
        refine ok_ret.mpr ?_
        rw [if_pos rfl, ok_callM, ok_consM]
        refine ok_rdv rfl ?_
        rw [ok_consM]
        refine ok_rdv rfl ?_
        rw [ok_nilM]
        refine (ih n _ _ (ex i _ _ ef ed) (by omega)).imp ?_
        rintro x ⟨_, g2⟩ ⟨e3, rfl⟩
        have e3 : g2 = g' := e3
        subst e3
        refine ⟨by simp; omega, rfl, rfl, ?_⟩
        rw [List.replicate_succ', List.map_append]
        rfl
      · rintro acc ⟨sl, g'⟩ ⟨e1, e2, rfl⟩
        rw [ok_frzC, vw_lst, onO_some, ok_allF]
        simp only [onB_bl, seqQ_rt, endQ_rt]
        refine ⟨e1, by simp⟩
theorem same_k {g : G} {k : Nat} {f d : D} {Q : D → Sg → Prop} (h : SameR g k f d) (hk : k ≤ 60) (q : ∀ sl, Q (.bl true) ⟨sl, g⟩) : Ok (m_l_same 60 [f, d] ⟨[], g⟩) Q := by
  refine (same_ok k 60 f d h hk).imp ?_
  rintro x ⟨sl, g'⟩ ⟨e, rfl⟩
  have e : g' = g := e
  subst e
  exact q sl
def Odd (g : G) (d : D) : Prop := ∃ t, TyF g d t ∧ (kitT t (.bt "int") = some false ∨ t = .bt "bool")
theorem odd_int {g : G} {d : D} {Q : D → Sg → Prop} (h : Odd g d) (q : ∀ sl, Q (.bl false) ⟨sl, g⟩) : Ok (m_is_integer [d] ⟨[], g⟩) Q := by
  obtain ⟨t, h1, h2⟩ := h
  have k1 : "int" ∈ known := by decide
  have k2 : "bool" ∈ known := by decide
  unfold m_is_integer
  rw [ok_runF]
  unfold b_is_integer
  have e : slots 1 [d] = [.val d] := rfl
  rw [e]
  rcases h2 with h2 | rfl
  · repeat ac_rfl
    rw [ok_eqn (isi_t h1 k1 h2)]
    repeat ac_rfl
    exact q _
  · repeat ac_rfl
    rw [ok_eqn (isi_t h1 k1 (b := true) (by decide))]
    repeat ac_rfl
    rw [ok_eqn (isi_t h1 k2 (b := true) (by decide))]
    repeat ac_rfl
    exact q _
theorem odd_number {g : G} {d : D} {Q : D → Sg → Prop} (h : Odd g d) (q : ∀ sl, Q (.bl false) ⟨sl, g⟩) : Ok (m_is_number [d] ⟨[], g⟩) Q := by
  unfold m_is_number
  rw [ok_runF]
  unfold b_is_number
  have e : slots 1 [d] = [.val d] := rfl
  rw [e]
  repeat ac_rfl
  refine odd_int h fun _ => ?_
  repeat ac_rfl
  exact q _
theorem int_number {g : G} {i : Int} {Q : D → Sg → Prop} (q : ∀ sl, Q (.bl (decide (0 ≤ i))) ⟨sl, g⟩) : Ok (m_is_number [.int i] ⟨[], g⟩) Q := by
  refine number_ok.imp ?_
  rintro x ⟨sl, g'⟩ ⟨e, rfl⟩
  have e : g' = g := e
  subst e
  exact q sl
/-- no list, no tuple -/
def NoSeq (g : G) (d : D) : Prop := ∃ t, TyF g d t ∧ kitT t (.bt "list") = some false ∧ kitT t (.bt "tuple") = some false
theorem nolist_k {g : G} {d : D} {Q : D → Sg → Prop} (h : NoSeq g d) (q : ∀ sl, Q (.bl false) ⟨sl, g⟩) : Ok (m_is_list [d] ⟨[], g⟩) Q := by
  obtain ⟨t, h1, h2, h3⟩ := h
  unfold m_is_list
  rw [ok_runF]
  unfold b_is_list
  have e : slots 1 [d] = [.val d] := rfl
  rw [e]
  repeat ac_rfl
  rw [ok_eqn (isi_t2 h1 h2 h3)]
  repeat ac_rfl
  exact q _
theorem list_k2 {g : G} {d : D} {v : Vw} {Q : D → Sg → Prop} (h : vwD ⟨[], g⟩ d = some v) (q : ∀ sl, Q (.bl true) ⟨sl, g⟩) : Ok (m_is_list [d] ⟨[], g⟩) Q := by
  refine (list_ok h).imp ?_
  rintro x ⟨sl, g'⟩ ⟨e, rfl⟩
  have e : g' = g := e
  subst e
  exact q sl
/-- told to be a number below n -/
def isNum (n : Int) : D → Bool
  | .int z => decide (0 ≤ z) && decide (z < n)
  | _ => false
def IntOrOdd (g : G) (x : D) : Prop := (∃ z, x = .int z) ∨ (Odd g x ∧ ∀ z, x ≠ .int z)
theorem isNum_odd {n : Int} {x : D} (h : ∀ z, x ≠ .int z) : isNum n x = false := by cases x <;> first | rfl | exact absurd rfl (h _)
theorem nums_all {n : Int} : ∀ {ds : List D}, ds.all (isNum n) = true → ∃ ns : List Int, ds = ns.map D.int ∧ ∀ z ∈ ns, 0 ≤ z ∧ z < n
  | [], _ => ⟨[], rfl, by simp⟩
  | d :: ds, h => by
    rw [List.all_cons, Bool.and_eq_true] at h
    obtain ⟨ns, e, hb⟩ := nums_all h.2
    cases d with
    | int z =>
      have h1 := h.1
      simp only [isNum, Bool.and_eq_true, decide_eq_true_eq] at h1
      exact ⟨z :: ns, by rw [e]; rfl, fun w hw => by rcases List.mem_cons.mp hw with rfl | hw; exact h1; exact hb w hw⟩
    | _ => exact absurd h.1 (by simp [isNum])
theorem nub_len_iff {ns : List Int} : (nubI ns).length = ns.length ↔ ns.Nodup := by
  have go : ∀ (ns acc : List Int), acc.Nodup → ((ns.foldl insI acc).length = acc.length + ns.length ↔ (acc ++ ns).Nodup) := by
    intro ns
    induction ns with
    | nil => intro acc h; simpa using h
    | cons z ns ih =>
      intro acc h
      have hle := fold_len (ns := ns) (acc := insI acc z)
      by_cases hz : z ∈ acc
      · have e : insI acc z = acc := by unfold insI; rw [if_pos hz]
        constructor
        · intro h1
          simp only [List.foldl_cons, List.length_cons] at h1
          rw [e] at hle h1
          omega
        · intro h1
          rw [List.nodup_append] at h1
          exact absurd rfl (h1.2.2 z hz z (by simp))
      · have e : insI acc z = acc ++ [z] := by unfold insI; rw [if_neg hz]
        rw [List.foldl_cons, e]
        have h2 : (acc ++ [z]).Nodup := nodup_snoc h hz
        have := ih (acc ++ [z]) h2
        rw [List.append_assoc] at this
        rw [show acc ++ z :: ns = acc ++ ([z] ++ ns) from rfl, ← this]
        simp only [List.length_append, List.length_cons, List.length_nil]
        omega
  have := go ns [] (by simp)
  simpa [nubI] using this
def unlikeB (n : Int) (ds : List D) : Bool := ds.all (isNum n) && decide ((ds.map fun d => match d with | .int z => z | _ => 0).Nodup)
theorem unlikeB_ints {n : Int} {ns : List Int} : unlikeB n (ns.map D.int) = (ns.all (fun z => decide (0 ≤ z) && decide (z < n)) && decide ns.Nodup) := by
  unfold unlikeB
  rw [List.all_map, List.map_map]
  have e : ((fun d => match d with | .int z => z | _ => 0) ∘ D.int : Int → Int) = id := rfl
  rw [e, List.map_id]
  rfl
theorem unlike_k {g : G} {d : D} {b : Bool} {ds : List D} {n : Int} {Q : D → Sg → Prop} (h : vwD ⟨[], g⟩ d = some (b, ds)) (ho : ∀ x ∈ ds, IntOrOdd g x) (hl : ds.length ≤ 100000) (q : ∀ sl, Q (.bl (unlikeB n ds)) ⟨sl, g⟩) : Ok (m_are_unlike [d, .int n] ⟨[], g⟩) Q := by
  have hsl := sizeLine_eq
  unfold m_are_unlike
  rw [ok_runF]
  unfold b_are_unlike
  have e : slots 3 [d, .int n] = [.val d, .val (.int n), .emp] := rfl
  have hv : ∀ sl, vwD ⟨sl, g⟩ d = some (b, ds) := fun sl => by rw [vwD_sl (sl' := [])]; exact h
  rw [e]
  repeat ac_rfl
  refine list_k2 h fun _ => ?_
  repeat ac_rfl
  refine ok_lcY1 (sl := [.val d, .val (.int n), .emp]) (g := g) (xs := ds) (ok := fun S' => vwD S' d = some (b, ds)) (fun x => x) (fun x => .bl (isNum n x)) (fun P hP => ?_) (by simp) rfl (hv _) (by omega) (fun x hx P hP => ?_) ?_
  · refine ok_bd.mpr (ok_rdv rfl (k_items (hv _) ?_))
    rw [List.map_id'] at hP
    exact hP
  · repeat ac_rfl
    rcases ho x hx with ⟨z, rfl⟩ | ⟨ho, hx⟩
    · refine int_number fun _ => ?_
      by_cases h0 : 0 ≤ z
      · rw [decide_eq_true h0]
        repeat ac_rfl
        have : isNum n (.int z) = decide (z < n) := by simp [isNum, h0]
        rw [← this]
        exact hP
      · rw [decide_eq_false h0]
        repeat ac_rfl
        have : isNum n (.int z) = false := by simp [isNum, h0]
        rw [← this]
        exact hP
    · refine odd_number ho fun _ => ?_
      repeat ac_rfl
      rw [← isNum_odd (n := n) hx]
      exact hP
  · rw [map_blX, ok_frzC, vw_lst, onO_some, ok_allF, ok_asB]
    have e4 : (List.map (fun z => isNum n z) ds).all id = ds.all (isNum n) := by rw [List.all_map]; rfl
    rw [e4]
    cases ha : ds.all (isNum n) with
    | false =>
      repeat ac_rfl
      have : unlikeB n ds = false := by unfold unlikeB; rw [ha]; rfl
      rw [← this]
      exact q _
    | true =>
      obtain ⟨ns, rfl, hb⟩ := nums_all ha
      rw [List.length_map] at hl
      repeat ac_rfl
      refine ok_dcInts2 (sl := [.val d, .val (.int n), .emp]) (g := g) (ns := ns) (ok := fun S' => vwD S' d = some (b, ns.map D.int)) (fun P hP => ?_) (by simp) rfl (hv _) (by omega) ?_
      · refine ok_bd.mpr (ok_rdv rfl (k_items (hv _) hP))
      rw [ok_lenDK, ok_h1, ok_hdN]
      refine ⟨_, hv _, ?_⟩
      simp only [ok_lenF, ok_eqI]
      repeat ac_rfl
      have : unlikeB n (ns.map D.int) = decide (((((nubI ns).map fun z => ((Sum.inl z : Key), D.bl true)).length : Nat) : Int) = (((ns.map D.int).length : Nat) : Int)) := by
        have ha' := ha
        unfold unlikeB
        rw [ha', Bool.true_and]
        have e : (List.map (fun d => match d with | .int z => z | _ => 0) (ns.map D.int) : List Int) = ns := by rw [List.map_map]; exact List.map_id _
        rw [e, List.length_map, List.length_map]
        by_cases hn : ns.Nodup
        · rw [decide_eq_true hn, decide_eq_true (by rw [nub_len_iff.mpr hn])]
        · rw [decide_eq_false hn, decide_eq_false fun k => hn (nub_len_iff.mp (by omega))]
      rw [← this]
      exact q _
theorem unlike_no {g : G} {d : D} {n : Int} {Q : D → Sg → Prop} (h : NoSeq g d) (q : ∀ sl, Q (.bl false) ⟨sl, g⟩) : Ok (m_are_unlike [d, .int n] ⟨[], g⟩) Q := by
  unfold m_are_unlike
  rw [ok_runF]
  unfold b_are_unlike
  have e : slots 3 [d, .int n] = [.val d, .val (.int n), .emp] := rfl
  rw [e]
  repeat ac_rfl
  refine nolist_k h fun _ => ?_
  repeat ac_rfl
  exact q _
/-- unlike numbers below n -/
structure Uq (n : Int) (row : List Int) : Prop where
  nd : row.Nodup
  bd : ∀ z ∈ row, 0 ≤ z ∧ z < n
theorem Uq.b {n : Int} {row : List Int} (h : Uq n row) : unlikeB n (row.map D.int) = true := by
  rw [unlikeB_ints, decide_eq_true h.nd, Bool.and_true, List.all_eq_true]
  intro z hz
  have := h.bd z hz
  simp [this.1, this.2]
theorem Uq.len {n : Int} {row : List Int} (h : Uq n row) (h0 : 0 ≤ n) : (row.length : Int) ≤ n := by
  by_cases e : row = []
  · subst e; simpa using h0
  · exact (Rw.mk e h.nd h.bd).len
theorem uq_k {g : G} {d : D} {b : Bool} {row : List Int} {n : Int} {Q : D → Sg → Prop} (h : vwD ⟨[], g⟩ d = some (b, row.map D.int)) (hr : Uq n row) (hl : row.length ≤ 100000) (q : ∀ sl, Q (.bl true) ⟨sl, g⟩) : Ok (m_are_unlike [d, .int n] ⟨[], g⟩) Q :=
  unlike_k h (fun x hx => by obtain ⟨z, _, rfl⟩ := mem_intsD hx; exact .inl ⟨z, rfl⟩) (by rw [List.length_map]; exact hl) fun sl => by rw [hr.b]; exact q sl
theorem SameR.str {g : G} {x : Str} (k : Nat) (h : PyData.strOk x = true) : SameR g (k + 1) (.str x) (.str x) := .flat k _ _ "str" rfl rfl (eqF_str h)
inductive All2 (R : D → D → Prop) : List D → List D → Prop
  | nil : All2 R [] []
  | cons {x y : D} {xs ys : List D} (h : R x y) (t : All2 R xs ys) : All2 R (x :: xs) (y :: ys)
theorem All2.len {R : D → D → Prop} : ∀ {xs ys : List D}, All2 R xs ys → xs.length = ys.length
  | _, _, .nil => rfl
  | _, _, .cons _ t => by simp [t.len]
theorem All2.get {R : D → D → Prop} : ∀ {xs ys : List D} {i : Nat} {x y : D}, All2 R xs ys → xs[i]? = some x → ys[i]? = some y → R x y
  | _, _, _, _, _, .nil, e, _ => by simp at e
  | _, _, 0, _, _, .cons h _, e, e' => by simp at e e'; subst e; subst e'; exact h
  | _, _, i + 1, _, _, .cons _ t, e, e' => t.get (i := i) (by simpa using e) (by simpa using e')
theorem SameR.all {g : G} {k : Nat} {xs ys : List D} {f d : D} {b : Bool} (h1 : vwD ⟨[], g⟩ f = some (b, xs)) (h2 : vwD ⟨[], g⟩ d = some (b, ys)) (h : All2 (SameR g k) xs ys) (hl : xs.length ≤ 100000 := by simp) : SameR g (k + 1) f d :=
  .seq k _ _ b xs ys h1 h2 h.len hl fun i x y hx hy => h.get hx hy
def NoLot (g : G) (n : Int) (d : D) : Prop := NoSeq g d ∨ ∃ b ds, vwD ⟨[], g⟩ d = some (b, ds) ∧ (∀ x ∈ ds, IntOrOdd g x) ∧ ds.length ≤ 100000 ∧ unlikeB n ds = false
theorem NoLot.k {g : G} {n : Int} {d : D} (h : NoLot g n d) (Q : D → Sg → Prop) (q : ∀ sl, Q (.bl false) ⟨sl, g⟩) : Ok (m_are_unlike [d, .int n] ⟨[], g⟩) Q := by
  rcases h with h | ⟨b, ds, h1, h2, h3, h4⟩
  · exact unlike_no h q
  · exact unlike_k h1 h2 h3 fun sl => by rw [h4]; exact q sl
theorem odd_of {g : G} {d : D} {t : String} (h : ∀ sl, tyD fns clss ⟨sl, g⟩ d = some (.bt t)) (ht : isT t "int" = false ∨ t = "bool") : Odd g d := ⟨.bt t, h, by rcases ht with h | rfl; exact .inl (by simp [kitT, h]); exact .inr rfl⟩
theorem noseq_of {g : G} {d : D} {t : String} (h : ∀ sl, tyD fns clss ⟨sl, g⟩ d = some (.bt t)) (h1 : isT t "list" = false) (h2 : isT t "tuple" = false) : NoSeq g d := ⟨.bt t, h, by simp [kitT, h1], by simp [kitT, h2]⟩
theorem noLot_lst {g : G} {n : Int} {ds : List D} (h : ∀ x ∈ ds, IntOrOdd g x) (hl : ds.length ≤ 100000) (hu : unlikeB n ds = false) : NoLot g n (.lst ds) := .inr ⟨true, ds, rfl, h, hl, hu⟩
theorem io_int {g : G} {z : Int} : IntOrOdd g (.int z) := .inl ⟨z, rfl⟩
end Lw
end

section
namespace Lw
open PySem L2 Mm
/-! Rkb: k39: what the program refuses. -/
section
variable {sl : List Slot} {g : G} {d : D} {v : Vw} {j : Nat} {ml : M D}
/-- the lambda at a thing: b -/
def AsksB (j : Nat) (ml : M D) (sl : List Slot) (g : G) (x : D) (b : Bool) : Prop := ∀ P : D → Sg → Prop, (∀ sl', P (.bl b) ⟨sl', g⟩) → Ok (ml ⟨sl.set j (.val x), g⟩) P
theorem ok_ask {x : D} {b : Bool} {P : D → Sg → Prop} (hn : noOwns sl = true) (h : AsksB j ml sl g x b) (q : P (.bl b) ⟨sl, g⟩) : Ok (askM j ml x ⟨sl, g⟩) P := by
  unfold askM
  rw [if_pos hn]
  obtain ⟨r, S1, e, h1⟩ := (h (fun d S => d = .bl b ∧ S.g = g) fun _ => ⟨rfl, rfl⟩).get
  obtain ⟨rfl, rfl⟩ := h1
  show Ok (match ml ⟨sl.set j (.val x), S1.g⟩ with | .ok r S' => R.ok r ⟨sl, S'.g⟩ | .exc _ _ _ => .stuck | .stuck => .stuck) P
  rw [e]
  exact ok_ok.mpr q
theorem ok_fbAt {Q : D → Sg → Prop} {k : Nat} (hn : noOwns sl = true) (hv : vwD ⟨sl, g⟩ d = some v) : ∀ (rest : List D) (i n : Nat), i + n = k → (∀ m x, m < n → rest[m]? = some x → AsksB j ml sl g x true) → (∃ x, rest[n]? = some x ∧ AsksB j ml sl g x false) → Q (.int (k : Nat)) ⟨sl, g⟩ → Ok (fbL j ml d v rest i ⟨sl, g⟩) Q := by
  intro rest
  induction rest with
  | nil => rintro i n _ _ ⟨x, hx, _⟩; simp at hx
  | cons x xs ih =>
    rintro i n hk h1 ⟨y, hy, h2⟩ q
    unfold fbL
    rw [if_pos hv]
    cases n with
    | zero =>
      have e : x = y := by simpa using hy
      subst e
      obtain ⟨r, S1, e, hr⟩ := (ok_ask (P := fun r S => r = .bl false ∧ S = ⟨sl, g⟩) hn h2 ⟨rfl, rfl⟩).get
      obtain ⟨rfl, rfl⟩ := hr
      rw [e]
      have ei : i = k := by omega
      subst ei
      exact ok_ok.mpr q
    | succ n =>
      obtain ⟨r, S1, e, hr⟩ := (ok_ask (P := fun r S => r = .bl true ∧ S = ⟨sl, g⟩) hn (h1 0 x (by omega) rfl) ⟨rfl, rfl⟩).get
      obtain ⟨rfl, rfl⟩ := hr
      rw [e]
      exact ih (i + 1) n (by omega) (fun m z hm hz => h1 (m + 1) z (by omega) (by simpa using hz)) ⟨y, by simpa using hy, h2⟩ q
theorem ok_fbNo {Q : D → Sg → Prop} (hn : noOwns sl = true) (hv : vwD ⟨sl, g⟩ d = some v) : ∀ (rest : List D) (i : Nat), (∀ x ∈ rest, AsksB j ml sl g x true) → Q .non ⟨sl, g⟩ → Ok (fbL j ml d v rest i ⟨sl, g⟩) Q := by
  intro rest
  induction rest with
  | nil =>
    intro i _ q
    unfold fbL
    rw [if_pos hv]
    exact ok_ok.mpr q
  | cons x xs ih =>
    intro i h q
    unfold fbL
    rw [if_pos hv]
    obtain ⟨r, S1, e, hr⟩ := (ok_ask (P := fun r S => r = .bl true ∧ S = ⟨sl, g⟩) hn (h x (by simp)) ⟨rfl, rfl⟩).get
    obtain ⟨rfl, rfl⟩ := hr
    rw [e]
    exact ih (i + 1) (fun y hy => h y (by simp [hy])) q
theorem ok_fbM {fl : F} {me : M D} {Q : D → Sg → Prop} {b : Bool} (hm : ∀ P : D → Sg → Prop, P d ⟨sl, g⟩ → Ok (me ⟨sl, g⟩) P) (hf : ∀ P : D → Sg → Prop, (∀ sl', P (.bl b) ⟨sl', g⟩) → Ok (fl [d] ⟨[], g⟩) P)
    (q : b = false → Q (.int 0) ⟨sl, g⟩) (q2 : b = true → ∃ v, vwD ⟨sl, g⟩ d = some v ∧ Ok (fbL j ml d v v.2 0 ⟨sl, g⟩) Q) : Ok (fbM fl j me ml ⟨sl, g⟩) Q := by
  unfold fbM
  rw [ok_bd]
  refine hm _ ?_
  obtain ⟨r, S1, e, hr⟩ := (hf (fun r S => r = .bl b ∧ S.g = g) fun _ => ⟨rfl, rfl⟩).get
  obtain ⟨rfl, hg⟩ := hr
  have e2 : inF (fl [d]) ⟨sl, g⟩ = .ok (.bl b) ⟨sl, g⟩ := by
    unfold inF
    show inR sl (fl [d] ⟨[], g⟩) = _
    rw [e]
    show R.ok (D.bl b) ⟨sl, S1.g⟩ = _
    rw [hg]
  show Ok (match inF (fl [d]) ⟨sl, g⟩ with | .ok (.bl false) S1 => R.ok (D.int 0) S1 | .ok (.bl true) S1 => (match vwD S1 d with | some v => fbL j ml d v v.2 0 S1 | none => .stuck) | _ => .stuck) Q
  rw [e2]
  cases b with
  | false => exact ok_ok.mpr (q rfl)
  | true =>
    obtain ⟨v, hv, h⟩ := q2 rfl
    show Ok (match vwD ⟨sl, g⟩ d with | some v => fbL j ml d v v.2 0 ⟨sl, g⟩ | none => .stuck) Q
    rw [hv]
    exact h
end
/-! ### pairs -/
def pairB (n : Int) (ds : List D) : Bool := decide (ds.length = 2) && unlikeB n ds
section
variable {g : G} {d : D} {b : Bool} {ds : List D} {n : Int} {Q : D → Sg → Prop}
theorem pair_k (h : vwD ⟨[], g⟩ d = some (b, ds)) (ho : ∀ x ∈ ds, IntOrOdd g x) (hl : ds.length ≤ 100000) (q : ∀ sl, Q (.bl (pairB n ds)) ⟨sl, g⟩) : Ok (m_is_pair [d, .int n] ⟨[], g⟩) Q := by
  have hsl := sizeLine_eq
  have hv : ∀ sl, vwD ⟨sl, g⟩ d = some (b, ds) := fun sl => by rw [vwD_sl (sl' := [])]; exact h
  unfold m_is_pair
  rw [ok_runF]
  unfold b_is_pair
  have e : slots 2 [d, .int n] = [.val d, .val (.int n)] := rfl
  rw [e]
  clear e
  repeat ac_rfl
  refine list_k2 h fun _ => ?_
  repeat ac_rfl
  have e2 : decide ((ds.length : Int) = 2) = decide (ds.length = 2) := by
    by_cases h2 : ds.length = 2
    · rw [h2]; rfl
    · rw [decide_eq_false h2, decide_eq_false (by omega)]
  by_cases h2 : ds.length = 2
  · have e3 : decide (ds.length = 2) = true := decide_eq_true h2
    have e4 : pairB n ds = unlikeB n ds := by unfold pairB; rw [e3, Bool.true_and]
    rw [e4] at q
    refine ite_if (fun _ => ?_) (fun k => absurd (show ((ds.length : Nat) : Int) = 2 by omega) k)
    repeat ac_rfl
    refine unlike_k h ho hl fun _ => ?_
    repeat ac_rfl
    exact q _
  · have e3 : decide (ds.length = 2) = false := decide_eq_false h2
    have e4 : pairB n ds = false := by unfold pairB; rw [e3, Bool.false_and]
    rw [e4] at q
    refine ite_if (fun k => absurd (show ds.length = 2 from by have k : ((ds.length : Nat) : Int) = 2 := k; omega) h2) (fun _ => ?_)
    repeat ac_rfl
    exact q _
theorem pair_no (h : NoSeq g d) (q : ∀ sl, Q (.bl false) ⟨sl, g⟩) : Ok (m_is_pair [d, .int n] ⟨[], g⟩) Q := by
  unfold m_is_pair
  rw [ok_runF]
  unfold b_is_pair
  have e : slots 2 [d, .int n] = [.val d, .val (.int n)] := rfl
  rw [e]
  clear e
  repeat ac_rfl
  refine nolist_k h fun _ => ?_
  repeat ac_rfl
  exact q _
end
end Lw
end

section
namespace Lw
open PySem L2 Mm
/-! Rkc: k39: the errors, one by one. -/
def AskE (f : F) (as : List D) (C : Str) (fs : List (Str × D)) (g : G) : Prop := Ex (f as ⟨[], g⟩) C fs fun S => S.g = g
def PairIs (g : G) (n : Int) (x : D) (b : Bool) : Prop := ∀ P : D → Sg → Prop, (∀ sl', P (.bl b) ⟨sl', g⟩) → Ok (m_is_pair [x, .int n] ⟨[], g⟩) P
def RowIs (g : G) (n : Int) (x : D) (b : Bool) : Prop := ∀ P : D → Sg → Prop, (∀ sl', P (.bl b) ⟨sl', g⟩) → Ok (m_are_unlike [x, .int n] ⟨[], g⟩) P
def NumIs (g : G) (x : D) (b : Bool) : Prop := ∀ P : D → Sg → Prop, (∀ sl', P (.bl b) ⟨sl', g⟩) → Ok (m_is_number [x] ⟨[], g⟩) P
inductive OrdIs (g : G) (n : Int) (x : D) : Bool → Prop
  | no (h : PairIs g n x false) : OrdIs g n x false
  | two (b : Bool) (a c : Int) (hv : vwD ⟨[], g⟩ x = some (b, [.int a, .int c])) (h : PairIs g n x true) : OrdIs g n x (decide (a < c))
/-- what is found of a list's things: the first one that is refused -/
inductive FbIs (A : D → Bool → Prop) (g : G) (T : D) : D → Prop
  | no (h : NoSeq g T) : FbIs A g T (.int 0)
  | hit (k : Nat) (b : Bool) (ts : List D) (hv : vwD ⟨[], g⟩ T = some (b, ts)) (h1 : ∀ m x, m < k → ts[m]? = some x → A x true) (h2 : ∃ x, ts[k]? = some x ∧ A x false) : FbIs A g T (.int (k : Nat))
  | all (b : Bool) (ts : List D) (hv : vwD ⟨[], g⟩ T = some (b, ts)) (h : ∀ x ∈ ts, A x true) : FbIs A g T .non
section
variable {sl : List Slot} {g : G} {T r : D} {j : Nat} {me ml : M D} {A : D → Bool → Prop} {Q : D → Sg → Prop} {n : Int}
theorem fb_is (h : FbIs A g T r) (hA : ∀ x b, A x b → AsksB j ml sl g x b) (hn : noOwns sl = true) (hm : ∀ P : D → Sg → Prop, P T ⟨sl, g⟩ → Ok (me ⟨sl, g⟩) P) (q : Q r ⟨sl, g⟩) : Ok (fbM m_is_list j me ml ⟨sl, g⟩) Q := by
  cases h with
  | no h => exact ok_fbM (b := false) hm (fun P hP => nolist_k h hP) (fun _ => q) (fun e => by cases e)
  | hit k b ts hv h1 h2 =>
    have hv' : vwD ⟨sl, g⟩ T = some (b, ts) := by rw [vwD_sl (sl' := [])]; exact hv
    refine ok_fbM (b := true) hm (fun P hP => list_k2 hv hP) (fun e => by cases e) fun _ => ⟨_, hv', ?_⟩
    obtain ⟨x, hx, h2⟩ := h2
    exact ok_fbAt hn hv' ts 0 k (by omega) (fun m y hy hm => hA _ _ (h1 m y hy hm)) ⟨x, hx, hA _ _ h2⟩ q
  | all b ts hv h =>
    have hv' : vwD ⟨sl, g⟩ T = some (b, ts) := by rw [vwD_sl (sl' := [])]; exact hv
    refine ok_fbM (b := true) hm (fun P hP => list_k2 hv hP) (fun e => by cases e) fun _ => ⟨_, hv', ?_⟩
    exact ok_fbNo hn hv' ts 0 (fun x hx => hA _ _ (h x hx)) q
theorem num_int {z : Int} : NumIs g (.int z) (decide (0 ≤ z)) := fun P hP => int_number hP
theorem num_odd {d : D} (h : Odd g d) : NumIs g d false := fun P hP => odd_number h hP
end
section
variable {g : G} {d T B E k : D} {n : Int}
theorem web_places (h : NumIs g d false) : AskE m_check_web [d, T, B, E] "BadPlaces" [("places", d)] g := by
  unfold AskE m_check_web
  refine ex_runF ?_
  have e : slots 7 [d, T, B, E] = [.val d, .val T, .val B, .val E, .emp, .emp, .emp] := rfl
  rw [e]
  unfold b_check_web
  refine ex_seq0 (ex_if ?_)
  repeat ac_rfl
  refine h _ fun _ => ?_
  repeat ac_rfl
  refine ex_raise ?_
  repeat ac_rfl
  exact ⟨rfl, rfl⟩
theorem web_asks {x : D} {b : Bool} {x4 x5 x6 : Slot} (h : PairIs g n x b) : AsksB 6 (callM m_is_pair (consM (rd 6) (consM (rd 0) nilM))) [.val (.int n), .val T, .val B, .val E, x4, x5, x6] g x b := by
  intro P hP
  show Ok (callM _ _ ⟨[.val (.int n), .val T, .val B, .val E, x4, x5, .val x], g⟩) _
  repeat ac_rfl
  refine h _ fun _ => ?_
  repeat ac_rfl
  exact hP _
/-- up to the roads -/
theorem web_upto {C : Str} {fs : List (Str × D)} (h0 : 0 ≤ n) (h : FbIs (PairIs g n) g T k)
    (q : Ex ((seqM (ifM (notNT (rd 4))
  (raiseM "BadRoads" ["index"] (consM (rd 4) nilM))
  (ret .nx))
  (seqM (ifM (notM (bd (callM m_are_unlike (consM (rd 2) (consM (rd 0) nilM))) asB))
  (raiseM "BadBegins" ["begins"] (consM (rd 2) nilM))
  (ret .nx))
  (ifM (orM (notM (bd (callM m_are_unlike (consM (rd 3) (consM (rd 0) nilM))) asB)) (bd (h1 (hdE (bd (lcM (bd (rd 3) itemsD) (.nm 5) [5] yesM (inM false (rd 5) (hdN 2))) frzC)) anyF) asB))
  (raiseM "BadEnds" ["ends"] (consM (rd 3) nilM))
  (ret .nx)))) ⟨[.val (.int n), .val T, .val B, .val E, .val k, .emp, .emp], g⟩) C fs fun S => S.g = g) : AskE m_check_web [.int n, T, B, E] C fs g := by
  unfold AskE m_check_web
  refine ex_runF ?_
  have e : slots 7 [.int n, T, B, E] = [.val (.int n), .val T, .val B, .val E, .emp, .emp, .emp] := rfl
  rw [e]
  unfold b_check_web
  refine ex_seq ?_
  repeat ac_rfl
  refine num_int _ fun _ => ?_
  rw [decide_eq_true h0]
  repeat ac_rfl
  refine ⟨rfl, ?_⟩
  refine ex_seq ?_
  repeat ac_rfl
  refine fb_is h (fun x b hx => web_asks hx) rfl (fun P hP => ok_rdv rfl hP) ?_
  repeat ac_rfl
  exact ⟨rfl, q⟩
theorem web_roads {z : Int} (h0 : 0 ≤ n) (h : FbIs (PairIs g n) g T (.int z)) : AskE m_check_web [.int n, T, B, E] "BadRoads" [("index", .int z)] g := by
  refine web_upto h0 h (ex_seq0 (ex_if ?_))
  repeat ac_rfl
  refine ex_raise ?_
  repeat ac_rfl
  exact ⟨rfl, rfl⟩
theorem web_begins (h0 : 0 ≤ n) (h : FbIs (PairIs g n) g T .non) (hb : NoLot g n B) : AskE m_check_web [.int n, T, B, E] "BadBegins" [("begins", B)] g := by
  refine web_upto h0 h (ex_seq ?_)
  repeat ac_rfl
  rw [if_neg (show ¬ (!isN D.non) = true by decide)]
  repeat ac_rfl
  refine ⟨rfl, ?_⟩
  refine ex_seq0 (ex_if ?_)
  repeat ac_rfl
  refine hb.k _ fun _ => ?_
  repeat ac_rfl
  refine ex_raise ?_
  repeat ac_rfl
  exact ⟨rfl, rfl⟩
theorem web_ends (h0 : 0 ≤ n) (h : FbIs (PairIs g n) g T .non) (hb : RowIs g n B true) (he : NoLot g n E) : AskE m_check_web [.int n, T, B, E] "BadEnds" [("ends", E)] g := by
  refine web_upto h0 h (ex_seq ?_)
  repeat ac_rfl
  rw [if_neg (show ¬ (!isN D.non) = true by decide)]
  repeat ac_rfl
  refine ⟨rfl, ?_⟩
  refine ex_seq ?_
  repeat ac_rfl
  refine hb _ fun _ => ?_
  repeat ac_rfl
  refine ⟨rfl, ?_⟩
  refine ex_if ?_
  repeat ac_rfl
  refine he.k _ fun _ => ?_
  repeat ac_rfl
  refine ex_raise ?_
  repeat ac_rfl
  exact ⟨rfl, rfl⟩
theorem web_ends2 {b' : Bool} {es row : List Int} (h0 : 0 ≤ n) (h : FbIs (PairIs g n) g T .non) (hB : vwD ⟨[], g⟩ B = some (true, row.map D.int)) (hb : Uq n row) (hE : vwD ⟨[], g⟩ E = some (b', es.map D.int)) (he : Uq n es) (hl : row.length ≤ 100000) (hl2 : es.length ≤ 100000) (hz : ∃ z ∈ es, z ∈ row) : AskE m_check_web [.int n, T, B, E] "BadEnds" [("ends", E)] g := by
  have hsl := sizeLine_eq
  have hB' : ∀ sl, vwD ⟨sl, g⟩ B = some (true, row.map D.int) := fun sl => by rw [vwD_sl (sl' := [])]; exact hB
  have hE' : ∀ sl, vwD ⟨sl, g⟩ E = some (b', es.map D.int) := fun sl => by rw [vwD_sl (sl' := [])]; exact hE
  refine web_upto h0 h (ex_seq ?_)
  repeat ac_rfl
  rw [if_neg (show ¬ (!isN D.non) = true by decide)]
  repeat ac_rfl
  refine ⟨rfl, ?_⟩
  refine ex_seq ?_
  repeat ac_rfl
  refine uq_k hB hb hl fun _ => ?_
  repeat ac_rfl
  refine ⟨rfl, ?_⟩
  refine ex_if ?_
  repeat ac_rfl
  refine uq_k hE he hl2 fun _ => ?_
  repeat ac_rfl
  refine ok_lcY1 (sl := [.val (.int n), .val T, .val B, .val E, .val .non, .emp, .emp]) (g := g) (xs := es) (ok := fun S' => vwD S' E = some (b', es.map D.int)) (fun z => D.int z) (fun z => .bl (decide (z ∈ row))) (fun P hP => ?_) (by simp) rfl (hE' _) (by omega) (fun z hz P hP => ?_) ?_
  · refine ok_bd.mpr (ok_rdv rfl (k_items (hE' _) hP))
  · have hB1 := hB' [.val (.int n), .val T, .val B, .val E, .val .non, .val (.int z), .emp]
    show Ok (inM false (rd 5) (hdN 2) ⟨[.val (.int n), .val T, .val B, .val E, .val .non, .val (.int z), .emp], g⟩) _
    repeat ac_rfl
    exact hP
  · rw [map_blX, ok_frzC, vw_lst, onO_some, ok_anyF, ok_asB]
    have ha : (es.map fun z => decide (z ∈ row)).any id = true := by
      obtain ⟨z, h1, h2⟩ := hz
      rw [List.any_eq_true]
      exact ⟨true, List.mem_map.mpr ⟨z, h1, by simp [h2]⟩, rfl⟩
    rw [if_pos ha]
    refine ex_raise ?_
    repeat ac_rfl
    exact ⟨rfl, rfl⟩
/-! ### of_roads, of_places, of_order, of_leaps -/
theorem ask_first {f0 : F} {as : List D} {m : Nat} {b : M Fl} {bs : List D} {C : Str} {fs : List (Str × D)} {ms : M (List D)} (h : AskE f0 bs C fs g) (hms : ∀ P : List D → Sg → Prop, P bs ⟨slots m as, g⟩ → Ok (ms ⟨slots m as, g⟩) P) : AskE (runF m (seqM (exprM (callM f0 ms)) b)) as C fs g := by
  unfold AskE
  refine ex_runF (S := ⟨[], g⟩) ?_
  exact ex_seq0 (ex_bd0 (ex_call (hms _ h)))
theorem ask_roads {C : Str} {fs : List (Str × D)} {a b c e : D} (h : AskE m_check_web [a, b, c, e] C fs g) : AskE m_of_roads [a, b, c, e] C fs g := by
  unfold m_of_roads b_of_roads
  exact ask_first h (fun P hP => by (repeat (first | rw [ok_consM] | refine ok_rdv rfl ?_ | rw [ok_ret] | rw [ok_nilM])); exact hP)
theorem ask_places {C : Str} {fs : List (Str × D)} {a b c e : D} (h : AskE m_check_web [a, b, c, e] C fs g) : AskE m_of_places [a, b, c, e] C fs g := by
  unfold m_of_places b_of_places
  exact ask_first h (fun P hP => by (repeat (first | rw [ok_consM] | refine ok_rdv rfl ?_ | rw [ok_ret] | rw [ok_nilM])); exact hP)
theorem ord_many (h : NumIs g d false) : AskE m_of_order [d, T] "BadMany" [("many", d)] g := by
  unfold AskE m_of_order
  refine ex_runF ?_
  have e : slots 6 [d, T] = [.val d, .val T, .emp, .emp, .emp, .emp] := rfl
  rw [e]
  unfold b_of_order
  refine ex_seq0 (ex_if ?_)
  repeat ac_rfl
  refine h _ fun _ => ?_
  repeat ac_rfl
  refine ex_raise ?_
  repeat ac_rfl
  exact ⟨rfl, rfl⟩
theorem leap_many (h : NumIs g d false) : AskE m_of_leaps [d, T] "BadMany" [("many", d)] g := by
  unfold AskE m_of_leaps
  refine ex_runF ?_
  have e : slots 7 [d, T] = [.val d, .val T, .emp, .emp, .emp, .emp, .emp] := rfl
  rw [e]
  unfold b_of_leaps
  refine ex_seq0 (ex_if ?_)
  repeat ac_rfl
  refine h _ fun _ => ?_
  repeat ac_rfl
  refine ex_raise ?_
  repeat ac_rfl
  exact ⟨rfl, rfl⟩
theorem leap_rows {z : Int} (h0 : 0 ≤ n) (h : FbIs (RowIs g n) g T (.int z)) : AskE m_of_leaps [.int n, T] "BadRows" [("index", .int z)] g := by
  unfold AskE m_of_leaps
  refine ex_runF ?_
  have e : slots 7 [.int n, T] = [.val (.int n), .val T, .emp, .emp, .emp, .emp, .emp] := rfl
  rw [e]
  unfold b_of_leaps
  refine ex_seq ?_
  repeat ac_rfl
  refine num_int _ fun _ => ?_
  rw [decide_eq_true h0]
  repeat ac_rfl
  refine ⟨rfl, ?_⟩
  refine ex_seq ?_
  repeat ac_rfl
  refine fb_is h (fun x b hx P hP => ?_) rfl (fun P hP => ok_rdv rfl hP) ?_
  · show Ok (callM _ _ ⟨[.val (.int n), .val T, .emp, .emp, .emp, .emp, .val x], g⟩) _
    repeat ac_rfl
    refine hx _ fun _ => ?_
    repeat ac_rfl
    exact hP _
  repeat ac_rfl
  refine ⟨rfl, ?_⟩
  refine ex_seq0 (ex_if ?_)
  repeat ac_rfl
  refine ex_raise ?_
  repeat ac_rfl
  exact ⟨rfl, rfl⟩
theorem ord_pairs {z : Int} (h0 : 0 ≤ n) (h : FbIs (OrdIs g n) g T (.int z)) : AskE m_of_order [.int n, T] "BadPairs" [("index", .int z)] g := by
  unfold AskE m_of_order
  refine ex_runF ?_
  have e : slots 6 [.int n, T] = [.val (.int n), .val T, .emp, .emp, .emp, .emp] := rfl
  rw [e]
  unfold b_of_order
  refine ex_seq ?_
  repeat ac_rfl
  refine num_int _ fun _ => ?_
  rw [decide_eq_true h0]
  repeat ac_rfl
  refine ⟨rfl, ?_⟩
  refine ex_seq ?_
  repeat ac_rfl
  refine fb_is h (fun x b hx P hP => ?_) rfl (fun P hP => ok_rdv rfl hP) ?_
  · show Ok (andV _ _ ⟨[.val (.int n), .val T, .emp, .emp, .emp, .val x], g⟩) _
    repeat ac_rfl
    cases hx with
    | no hx =>
      refine hx _ fun _ => ?_
      repeat ac_rfl
      exact hP _
    | two b a c hv hx =>
      have hv1 : vwD ⟨[.val (.int n), .val T, .emp, .emp, .emp, .val x], g⟩ x = some (b, [.int a, .int c]) := by rw [vwD_sl (sl' := [])]; exact hv
      refine hx _ fun _ => ?_
      repeat ac_rfl
      exact hP _
  repeat ac_rfl
  refine ⟨rfl, ?_⟩
  refine ex_seq0 (ex_if ?_)
  repeat ac_rfl
  refine ex_raise ?_
  repeat ac_rfl
  exact ⟨rfl, rfl⟩
end
end Lw
end

section
namespace Lw
open PySem L2 Mm
/-! Rkd: k39: loosened things, and the parts of the law. -/
def sq (b : Bool) (ds : List D) : D := if b = true then .lst ds else .tup ds
theorem vw_sq {S : Sg} {b : Bool} {ds : List D} : vwD S (sq b ds) = some (b, ds) := by cases b <;> rfl
def Flat1 (d : D) : Prop := match d with
  | .lst _ => False
  | .tup _ => False
  | _ => True
theorem flat_ne {d : D} (h : Flat1 d) (b : Bool) (ds : List D) : d ≠ sq b ds := fun e => by subst e; cases b <;> exact h
/-- atoms that stay atoms while the stream goes on, and lists of such -/
inductive Shp (r r0 : Nat) : Nat → Nat → G → D → Prop
  | at1 (k c : Nat) (g : G) (d : D) (h : ∀ g', Fr r r0 g g' → NoSeq g' d) : Shp r r0 (k + 1) c g d
  | seq (k c c' : Nat) (g : G) (b : Bool) (ds : List D) (hl : ds.length ≤ 100000) (hd : ∀ d ∈ ds, Shp r r0 k c g d) (hc : ds.length * c + 1 ≤ c') : Shp r r0 (k + 1) c' g (sq b ds)
/-- the same loosely -/
inductive Lse : Nat → D → D → Prop
  | at1 (k : Nat) (d : D) : Lse (k + 1) d d
  | seq (k : Nat) (b b' : Bool) (ds ts : List D) (hl : ds.length = ts.length) (ex : ∀ (i : Nat) (d t : D), ds[i]? = some d → ts[i]? = some t → Lse k d t) : Lse (k + 1) (sq b ds) (sq b' ts)
theorem Shp.fr {r r0 : Nat} : ∀ {k c : Nat} {g g' : G} {d : D}, Shp r r0 k c g d → Fr r r0 g g' → Shp r r0 k c g' d := by
  intro k
  induction k with
  | zero => intro c g g' d h; cases h
  | succ k ih =>
    intro c g g' d h f
    cases h with
    | at1 _ _ _ _ h => exact .at1 _ _ _ _ fun g2 f2 => h g2 (f.trans f2)
    | seq _ c1 _ _ b ds hl hd hc => exact .seq _ c1 _ _ b ds hl (fun d hm => ih (hd d hm) f) hc
theorem draw_k {g : G} {r r0 : Nat} {c many : Int} {Q : D → Sg → Prop} (s : St g r r0 c) (hc : c ≤ 100000000000000) (h1 : 1 ≤ many) (h2 : many ≤ 4611686018427387904)
    (hQ : ∀ z sl g', 0 ≤ z → z < many → St g' r r0 (c + 1) → Fr r r0 g g' → Q (.int z) ⟨sl, g'⟩) : Ok (m_l_draw [.box r, .int many] ⟨[], g⟩) Q :=
  (draw_ok s hc h1 h2).imp fun d S ⟨_, hs, hf, z, e, z1, z2⟩ => by subst e; exact hQ z S.sl S.g z1 z2 hs hf
def LsI (g0 : G) (r r0 : Nat) (c : Int) (c1 k : Nat) (ds : List D) (i : Nat) (acc : List D) (g : G) : Prop := acc.length = i ∧ St g r r0 (c + (i * c1 : Nat)) ∧ Fr r r0 g0 g ∧ ∀ (j : Nat) (d t : D), ds[j]? = some d → acc[j]? = some t → Lse k d t
theorem loose_ok {r r0 : Nat} : ∀ (k fuel : Nat) (c' : Nat) (d : D) (g : G) (c : Int), Shp r r0 k c' g d → k ≤ fuel → St g r r0 c → c + c' ≤ 100000000000000 →
    Ok (m_l_loose fuel [.box r, d] ⟨[], g⟩) fun t S => St S.g r r0 (c + c') ∧ Fr r r0 g S.g ∧ Lse k d t := by
  have hsl := sizeLine_eq
  intro k
  induction k with
  | zero => intro fuel c' d g c h; cases h
  | succ k ih =>
    intro fuel c' d g c h hk s hc
    obtain ⟨n, rfl⟩ := Nat.exists_eq_succ_of_ne_zero (by omega : fuel ≠ 0)
    have e : m_l_loose (n + 1) = runF 4 (b_l_loose (m_l_loose n)) := rfl
    rw [Nat.succ_eq_add_one, e, ok_runF]
    unfold b_l_loose
    cases h with
    | at1 _ _ _ _ h1 =>
      have hn := h1 g (.refl g)
      obtain ⟨t, t1, t2, t3⟩ := hn
      have e : slots 4 [.box r, d] = [.val (.box r), .val d, .emp, .emp] := rfl
      rw [e, ok_seqM, ok_ifM, ok_bd, isi_of]
      refine ok_rdv rfl ?_
      simp only [ok_tupM, ok_consM, ok_ret, ok_nilM, ok_eqn (isi_t2 t1 t2 t3), ok_asB]
      refine ⟨by simp [hsl], ?_⟩
      rw [if_neg (by decide), seqQ_nx, ok_retM]
      refine ok_rdv rfl ?_
      rw [endQ_rt]
      exact ⟨s.mono (by omega), .refl g, .at1 _ _⟩
    | seq _ c1 _ _ b ds hl hds hcc =>
      have e : slots 4 [.box r, sq b ds] = [.val (.box r), .val (sq b ds), .emp, .emp] := rfl
      rw [e, ok_seqM, ok_ifM, ok_bd, isi_of]
      refine ok_rdv rfl ?_
      simp only [ok_tupM, ok_consM, ok_ret, ok_nilM, ok_eqn (isi_seqs vw_sq), ok_asB]
      refine ⟨by simp [hsl], ?_⟩
      rw [if_pos trivial, ok_seqM, ok_setM, ok_bd]
      refine ok_lc1 (by simp) rfl ?_
      rw [ok_bd]
      refine ok_rdv rfl ?_
      rw [ok_itemsD, vw_sq, onO_some]
      refine ⟨rfl, LsI g r r0 c c1 k ds, fun _ _ _ _ _ => vw_sq, ⟨rfl, by simpa using s, .refl g, by simp⟩, ?_, ?_⟩
      · rintro i d acc g1 hd ⟨h1, s1, f1, h4⟩
        have hd : ds[i]? = some d := hd
        have hi : i < ds.length := (List.getElem?_eq_some_iff.mp hd).1
        refine ok_ret.mpr ⟨rfl, ?_⟩
        rw [if_pos rfl, ok_callM, ok_consM]
        refine ok_rdv rfl ?_
        rw [ok_consM]
        refine ok_rdv rfl ?_
        rw [ok_nilM]
        have hm : (i + 1) * c1 ≤ ds.length * c1 := Nat.mul_le_mul_right _ hi
        have hm' : (i + 1) * c1 = i * c1 + c1 := Nat.succ_mul _ _
        refine (ih n c1 d g1 _ ((hds d (List.mem_of_getElem? hd)).fr f1) (by omega) s1 (by omega)).imp ?_
        rintro t ⟨_, g2⟩ ⟨s2, f2, hL⟩
        refine ⟨rfl, by omega, by simp [h1], ?_, f1.trans f2, ?_⟩
        · have e : c + (((i + 1) * c1 : Nat) : Int) = c + ((i * c1 : Nat) : Int) + (c1 : Int) := by omega
          rw [e]; exact s2
        · intro j d' t' hd' ht'
          by_cases hj : j < acc.length
          · rw [List.getElem?_append_left hj] at ht'
            exact h4 j d' t' hd' ht'
          · rw [List.getElem?_append_right (by omega)] at ht'
            have h0 : j - acc.length = 0 := by
              have := (List.getElem?_eq_some_iff.mp ht').1
              simp at this
              omega
            rw [h0] at ht'
            simp at ht'
            have : j = i := by omega
            subst this
            rw [hd] at hd'
            cases hd'
            subst ht'
            exact hL
      · rintro acc g1 ⟨h1, s1, f1, h4⟩
        have h1 : acc.length = ds.length := h1
        have s1 : St g1 r r0 (c + (ds.length * c1 : Nat)) := s1
        have fin : ∀ b' g2, St g2 r r0 (c + (ds.length * c1 : Nat) + 1) → Fr r r0 g1 g2 → St g2 r r0 (c + c') ∧ Fr r r0 g g2 ∧ Lse (k + 1) (sq b ds) (sq b' acc) := fun b' g2 s2 f2 => ⟨s2.mono (by omega), f1.trans f2, .seq _ _ _ _ _ h1.symm h4⟩
        rw [ok_frzC, seqQ_nx, ok_retM, ok_ifM, ok_bopT, ok_callM, ok_consM]
        refine ok_rdv rfl ?_
        simp only [ok_consM, ok_ret, ok_nilM]
        refine draw_k (many := 2) s1 (by omega) (by decide) (by decide) ?_
        intro z _ g2 z0 z1 s2 f2
        rw [ok_eqI, ok_asB]
        split
        · refine ok_rdv rfl ?_
          rw [seqQ_rt, endQ_rt]
          exact fin true g2 s2 f2
        · rw [ok_h1, ok_hdN]
          refine ⟨(true, acc), rfl, ?_⟩
          show Ok (tupleF (true, acc) _) _
          rw [ok_tupleF, seqQ_rt, endQ_rt]
          exact fin false g2 s2 f2

theorem lse_atom {k : Nat} {d t : D} (h : Lse k d t) (hd : Flat1 d) : t = d := by
  generalize e : d = d' at h
  cases h with
  | at1 => rfl
  | seq _ b _ ds _ _ _ => subst e; exact absurd rfl (flat_ne hd b ds)
theorem sq_inj {b b' : Bool} {ds ds' : List D} (h : sq b ds = sq b' ds') : b = b' ∧ ds = ds' := by
  have h1 : vwD ⟨[], g0⟩ (sq b ds) = some (b, ds) := vw_sq
  rw [h, vw_sq] at h1
  cases h1
  exact ⟨rfl, rfl⟩
theorem lse_sq {k : Nat} {t : D} {b : Bool} {ds : List D} (h : Lse k (sq b ds) t) : ∃ b' ts, t = sq b' ts ∧ ds.length = ts.length ∧ ∀ (i : Nat) (d t : D), ds[i]? = some d → ts[i]? = some t → ∃ k', Lse k' d t := by
  generalize e : sq b ds = d at h
  cases h with
  | at1 k d => exact ⟨b, ds, e.symm, rfl, fun i d t h1 h2 => ⟨1, by rw [h1] at h2; cases h2; exact .at1 _ _⟩⟩
  | seq k b1 b' ds1 ts hl ex =>
    obtain ⟨rfl, rfl⟩ := sq_inj e
    exact ⟨b', ts, rfl, hl, fun i d t h1 h2 => ⟨k, ex i d t h1 h2⟩⟩
/-- a list of atoms -/
theorem lse_flat {k : Nat} {t : D} {b : Bool} {ds : List D} (h : Lse k (sq b ds) t) (hd : ∀ d ∈ ds, Flat1 d) : ∃ b', t = sq b' ds := by
  obtain ⟨b', ts, rfl, hl, ex⟩ := lse_sq h
  refine ⟨b', congrArg (sq b') ?_⟩
  refine List.ext_getElem? fun i => ?_
  cases e : ts[i]? with
  | none =>
    have h1 := List.getElem?_eq_none_iff.mp e
    exact (List.getElem?_eq_none_iff.mpr (by omega)).symm
  | some t =>
    have h1 := (List.getElem?_eq_some_iff.mp e).1
    have h2 : i < ds.length := by omega
    obtain ⟨k', h3⟩ := ex i _ t (List.getElem?_eq_getElem h2) e
    rw [List.getElem?_eq_getElem h2, lse_atom h3 (hd _ (List.getElem_mem h2))]
theorem callV_eq {fs : List (Str × F)} {i : Nat} {m : Str} {f : F} {ms : M (List D)} {S : Sg} (h : S.sl[i]? = some (.val (.glo m))) (hf : fs.lookup m = some f) : callV fs i ms S = callM f ms S := by
  unfold callV bd rd
  rw [h]
  show (match selF fs (.glo m) with | some f => callM f ms | none => nope) S = _
  have : selF fs (.glo m) = some f := hf
  rw [this]
theorem callVK_eq {fs : List (Str × F)} {i : Nat} {idx : List Nat} {m : Str} {f : F} {ms : M (List D)} {S : Sg} (h : S.sl[i]? = some (.val (.glo m))) (hf : fs.lookup m = some f) : callVK fs i idx ms S = callK f idx ms S := by
  unfold callVK bd rd
  rw [h]
  show (match selF fs (.glo m) with | some f => callK f idx ms | none => nope) S = _
  have : selF fs (.glo m) = some f := hf
  rw [this]
noncomputable def wb_1 : M Fl :=
  (bd (bd (tupM (consM (ret .non) (consM (ret (.bl true)) (consM (negM (ret (.int 1))) (consM (ret (.str "3")) (consM (bd (lstM (consM (ret (.int 3)) nilM)) frzC) (consM (bd (ret (.dK [])) boxC) nilM))))))) itemsD) (forM (.nm 9)
  (ifM (notM (bd (callM (m_l_same 60) (consM (metM Bs_l_met Kl_l_met "told" false (callV [("of_roads", m_of_roads), ("of_places", m_of_places)] 8 (consM (rd 9) (consM (ret .non) (consM (ret .non) (consM (ret .non) nilM)))))) (consM (tupM (consM (ret (.str "places")) (consM (rd 9) nilM))) nilM))) asB))
  (retM (ret (.bl false)))
  (ret .nx))))
noncomputable def wb_2 : M Fl :=
  (setM 5 (bd (lstM (consM (ret .non) (consM (ret (.int 5)) (consM (tupM nilM) (consM (tupM (consM (ret (.int 0)) nilM)) (consM (tupM (consM (ret (.int 0)) (consM (ret (.int 0)) nilM))) (consM (tupM (consM (ret (.int 0)) (consM (rd 1) nilM))) (consM (tupM (consM (ret (.int 0)) (consM (negM (ret (.int 1))) nilM))) (consM (tupM (consM (ret (.int 0)) (consM (ret (.bl true)) nilM))) (consM (tupM (consM (ret (.int 0)) (consM (ret (.str "1")) nilM))) (consM (tupM (consM (ret (.int 0)) (consM (ret (.int 1)) (consM (ret (.int 2)) nilM)))) (consM (ret (.str "01")) (consM (bd (ret (.dK (mergeDK [] [(.inl 0, .int 1), (.inl 1, .int 0)]))) boxC) nilM))))))))))))) frzC))
noncomputable def wb_3 : M Fl :=
  (bd (bd (bd (catC (hdN 5) (hdE (bd (lstM (consM (bd (lstM (consM (ret (.int 0)) (consM (ret .non) nilM))) frzC) (consM (tupM (consM (ret (.bl true)) (consM (ret (.int 2)) nilM))) (consM (bd (lstM (consM (ret .non) (consM (ret (.int 1)) nilM))) frzC) nilM)))) frzC))) frzC) itemsD) (forM (.nm 9)
  (seqM (setM 6 (callM m_l_draw (consM (rd 0) (consM (bop addI (h1 (hdN 2) lenF) (ret (.int 1))) nilM))))
  (seqM (setM 10 (bd (catC (hdE (bd (catC (hdE (bd (catC (hdE (slM (hdN 2) (ret none) (bd (rd 6) oint))) (hdE (bd (lstM (consM (rd 9) nilM)) frzC))) frzC)) (hdE (slM (hdN 2) (bd (rd 6) oint) (ret none)))) frzC)) (hdE (bd (lstM (consM (ret .non) nilM)) frzC))) frzC))
  (ifM (notM (bd (callM (m_l_same 60) (consM (metM Bs_l_met Kl_l_met "told" false (callV [("of_roads", m_of_roads), ("of_places", m_of_places)] 8 (consM (rd 1) (consM (callM (m_l_loose 60) (consM (rd 0) (consM (rd 10) nilM))) (consM (ret .non) (consM (ret .non) nilM)))))) (consM (tupM (consM (ret (.str "roads")) (consM (rd 6) nilM))) nilM))) asB))
  (retM (ret (.bl false)))
  (ret .nx))))))
noncomputable def wb_4 : M Fl :=
  (bd (bd (tupM (consM (ret .non) (consM (ret (.int 5)) (consM (ret (.str "ab")) (consM (bd (ret (.dK [])) boxC) (consM (ret (.bl true)) nilM)))))) itemsD) (forM (.nm 9)
  (ifM (notM (bd (callM (m_l_same 60) (consM (metM Bs_l_met Kl_l_met "told" false (callV [("of_roads", m_of_roads), ("of_places", m_of_places)] 8 (consM (rd 1) (consM (rd 9) (consM (ret .non) (consM (ret .non) nilM)))))) (consM (tupM (consM (ret (.str "roads")) (consM (ret (.int 0)) nilM))) nilM))) asB))
  (retM (ret (.bl false)))
  (ret .nx))))
noncomputable def wb_5 : M Fl :=
  (bd (bd (tupM (consM (ret .non) (consM (ret (.int 5)) (consM (ret (.str "0")) (consM (bd (ret (.dK [])) boxC) (consM (ret (.bl true)) (consM (bd (lstM (consM (rd 1) nilM)) frzC) (consM (bd (lstM (consM (ret (.int 0)) (consM (ret (.int 0)) nilM))) frzC) (consM (bd (lstM (consM (negM (ret (.int 1))) nilM)) frzC) (consM (bd (lstM (consM (ret (.bl true)) nilM)) frzC) (consM (bd (lstM (consM (ret (.str "0")) nilM)) frzC) (consM (bd (lstM (consM (ret .non) nilM)) frzC) (consM (bd (lstM (consM (bd (lstM (consM (ret (.int 0)) nilM)) frzC) nilM)) frzC) (consM (tupM (consM (ret (.int 0)) (consM (ret (.int 1)) (consM (ret (.int 0)) nilM)))) nilM)))))))))))))) itemsD) (forM (.nm 9)
  (seqM (setM 7 (bd (lstM (consM (metM Bs_l_met Kl_l_met "told" false (callV [("of_roads", m_of_roads), ("of_places", m_of_places)] 8 (consM (rd 1) (consM (rd 2) (consM (rd 9) (consM (ret .non) nilM)))))) nilM)) boxC))
  (seqM (exprM (mutM appF (plN 7) (consM (metM Bs_l_met Kl_l_met "told" false (callV [("of_roads", m_of_roads), ("of_places", m_of_places)] 8 (consM (rd 1) (consM (rd 2) (consM (rd 3) (consM (rd 9) nilM)))))) nilM)))
  (ifM (notM (bd (callM (m_l_same 60) (consM (rd 7) (consM (bd (lstM (consM (tupM (consM (ret (.str "begins")) (consM (rd 9) nilM))) (consM (tupM (consM (ret (.str "ends")) (consM (rd 9) nilM))) nilM))) frzC) nilM))) asB))
  (retM (ret (.bl false)))
  (ret .nx))))))
noncomputable def wb_6 : M Fl :=
  (bd (bd (tupM (consM (rd 3) (consM (h1 (hdE (slM (hdN 3) (ret none) (bd (ret (.int 1)) oint))) (fun v => if v.1 = true then tupleF v else nope)) (consM (bd (catC (hdE (slM (hdN 3) (ret none) (bd (ret (.int 1)) oint))) (hdN 4)) frzC) (consM (bd (catC (hdN 4) (hdE (slM (hdN 3) (bd (ret (.int 1)) oint) (ret none)))) frzC) (consM (bd (catC (hdN 4) (hdE (slM (hdN 3) (ret none) (bd (ret (.int 1)) oint)))) frzC) nilM)))))) itemsD) (forM (.nm 9)
  (ifM (notM (bd (callM (m_l_same 60) (consM (metM Bs_l_met Kl_l_met "told" false (callVK [("of_roads", m_of_roads), ("of_places", m_of_places)] 8 [3, 2, 1, 0] (consM (rd 9) (consM (rd 3) (consM (rd 2) (consM (rd 1) nilM)))))) (consM (tupM (consM (ret (.str "ends")) (consM (rd 9) nilM))) nilM))) asB))
  (retM (ret (.bl false)))
  (ret .nx))))
theorem wb_eq : b_l_webs_right = seqM (bd (bd (tupM (consM (ret (.glo "of_roads")) (consM (ret (.glo "of_places")) nilM))) itemsD) (forM (.nm 8) (seqM wb_1 (seqM wb_2 (seqM wb_3 (seqM wb_4 (seqM wb_5 (wb_6)))))))) (retM (ret (.bl true))) := rfl
noncomputable def tb_1 : M Fl :=
  (parM [2, 3] (pVal (bd (lstM (consM (tupM (consM (ret (.int 0)) (consM (ret (.int 1)) nilM))) (consM (bd (lstM (consM (ret (.int 0)) (consM (bop subI (rd 1) (ret (.int 1))) nilM))) frzC) nilM))) frzC) (pVal (bd (lstM (consM (bd (lstM (consM (ret (.int 0)) nilM)) frzC) (consM (bd (lstM nilM) frzC) (consM (tupM (consM (ret (.int 1)) (consM (ret (.int 0)) nilM))) nilM)))) frzC) pNil)))
noncomputable def tb_2 : M Fl :=
  (bd (bd (tupM (consM (ret (.glo "of_order")) (consM (ret (.glo "of_leaps")) nilM))) itemsD) (forM (.nm 7)
  (bd (bd (tupM (consM (ret .non) (consM (ret (.bl true)) (consM (negM (ret (.int 1))) (consM (ret (.str "3")) (consM (bd (lstM (consM (ret (.int 3)) nilM)) frzC) (consM (bd (ret (.dK [])) boxC) nilM))))))) itemsD) (forM (.nm 8)
  (ifM (notM (bd (callM (m_l_same 60) (consM (metM Bs_l_met Kl_l_met "told" false (callV [("of_order", m_of_order), ("of_leaps", m_of_leaps)] 7 (consM (rd 8) (consM (ret .non) nilM)))) (consM (tupM (consM (ret (.str "many")) (consM (rd 8) nilM))) nilM))) asB))
  (retM (ret (.bl false)))
  (ret .nx))))))
noncomputable def tb_3 : M Fl :=
  (setM 4 (bd (lstM (consM (ret .non) (consM (ret (.int 5)) (consM (tupM nilM) (consM (tupM (consM (ret (.int 0)) nilM)) (consM (tupM (consM (ret (.int 1)) (consM (ret (.int 0)) nilM))) (consM (tupM (consM (ret (.int 0)) (consM (ret (.int 0)) nilM))) (consM (tupM (consM (ret (.int 0)) (consM (rd 1) nilM))) (consM (tupM (consM (negM (ret (.int 1))) (consM (ret (.int 0)) nilM))) (consM (tupM (consM (ret (.int 0)) (consM (ret (.bl true)) nilM))) (consM (tupM (consM (ret (.int 0)) (consM (ret (.str "1")) nilM))) (consM (tupM (consM (ret (.int 0)) (consM (ret (.int 1)) (consM (ret (.int 2)) nilM)))) (consM (ret (.str "01")) (consM (bd (ret (.dK (mergeDK [] [(.inl 0, .int 0), (.inl 1, .int 1)]))) boxC) nilM)))))))))))))) frzC))
noncomputable def tb_4 : M Fl :=
  (bd (bd (bd (catC (hdN 4) (hdE (bd (lstM (consM (tupM (consM (ret (.bl false)) (consM (ret (.int 2)) nilM))) (consM (bd (lstM (consM (ret .non) (consM (ret (.int 1)) nilM))) frzC) nilM))) frzC))) frzC) itemsD) (forM (.nm 8)
  (seqM (setM 5 (callM m_l_draw (consM (rd 0) (consM (bop addI (h1 (hdN 2) lenF) (ret (.int 1))) nilM))))
  (seqM (setM 9 (bd (catC (hdE (bd (catC (hdE (bd (catC (hdE (slM (hdN 2) (ret none) (bd (rd 5) oint))) (hdE (bd (lstM (consM (rd 8) nilM)) frzC))) frzC)) (hdE (slM (hdN 2) (bd (rd 5) oint) (ret none)))) frzC)) (hdE (bd (lstM (consM (ret .non) nilM)) frzC))) frzC))
  (ifM (notM (bd (callM (m_l_same 60) (consM (metM Bs_l_met Kl_l_met "told" false (callM m_of_order (consM (rd 1) (consM (rd 9) nilM)))) (consM (tupM (consM (ret (.str "pairs")) (consM (rd 5) nilM))) nilM))) asB))
  (retM (ret (.bl false)))
  (ret .nx))))))
noncomputable def tb_5 : M Fl :=
  (bd (bd (tupM (consM (ret .non) (consM (ret (.int 5)) (consM (ret (.str "0")) (consM (bd (ret (.dK [])) boxC) (consM (ret (.bl true)) (consM (bd (lstM (consM (rd 1) nilM)) frzC) (consM (bd (lstM (consM (ret (.int 0)) (consM (ret (.int 0)) nilM))) frzC) (consM (bd (lstM (consM (negM (ret (.int 1))) nilM)) frzC) (consM (bd (lstM (consM (ret (.bl true)) nilM)) frzC) (consM (bd (lstM (consM (ret (.str "0")) nilM)) frzC) (consM (bd (lstM (consM (ret .non) nilM)) frzC) (consM (bd (lstM (consM (bd (lstM (consM (ret (.int 0)) nilM)) frzC) nilM)) frzC) (consM (tupM (consM (ret (.int 0)) (consM (ret (.int 1)) (consM (ret (.int 0)) nilM)))) nilM)))))))))))))) itemsD) (forM (.nm 8)
  (seqM (setM 5 (callM m_l_draw (consM (rd 0) (consM (bop addI (h1 (hdN 3) lenF) (ret (.int 1))) nilM))))
  (seqM (setM 9 (bd (catC (hdE (bd (catC (hdE (bd (catC (hdE (slM (hdN 3) (ret none) (bd (rd 5) oint))) (hdE (bd (lstM (consM (rd 8) nilM)) frzC))) frzC)) (hdE (slM (hdN 3) (bd (rd 5) oint) (ret none)))) frzC)) (hdE (bd (lstM (consM (ret .non) nilM)) frzC))) frzC))
  (ifM (notM (bd (callM (m_l_same 60) (consM (metM Bs_l_met Kl_l_met "told" false (callK m_of_leaps [1, 0] (consM (rd 9) (consM (rd 1) nilM)))) (consM (tupM (consM (ret (.str "rows")) (consM (rd 5) nilM))) nilM))) asB))
  (retM (ret (.bl false)))
  (ret .nx))))))
noncomputable def tb_6 : M Fl :=
  (bd (bd (tupM (consM (ret .non) (consM (ret (.int 5)) (consM (ret (.str "ab")) (consM (bd (ret (.dK [])) boxC) (consM (ret (.bl true)) nilM)))))) itemsD) (forM (.nm 8)
  (seqM (setM 6 (bd (lstM (consM (metM Bs_l_met Kl_l_met "told" false (callK m_of_order [1, 0] (consM (rd 8) (consM (rd 1) nilM)))) nilM)) boxC))
  (seqM (exprM (mutM appF (plN 6) (consM (metM Bs_l_met Kl_l_met "told" false (callM m_of_leaps (consM (rd 1) (consM (rd 8) nilM)))) nilM)))
  (ifM (notM (bd (callM (m_l_same 60) (consM (rd 6) (consM (bd (lstM (consM (tupM (consM (ret (.str "pairs")) (consM (ret (.int 0)) nilM))) (consM (tupM (consM (ret (.str "rows")) (consM (ret (.int 0)) nilM))) nilM))) frzC) nilM))) asB))
  (retM (ret (.bl false)))
  (ret .nx))))))
noncomputable def tb_7 : M Fl :=
  (retM (ret (.bl true)))
theorem tb_eq : b_l_things_right = seqM tb_1 (seqM tb_2 (seqM tb_3 (seqM tb_4 (seqM tb_5 (seqM tb_6 (tb_7)))))) := rfl
end Lw
end

section
namespace Lw
open PySem L2 Mm
/-! Rke: k39: webs refused, a loop at a time. -/
section
variable {sl : List Slot} {g : G} {f : F} {ms : M (List D)} {C nm : Str} {fs : List (Str × D)} {d : D} {P : D → Sg → Prop} {i : Nat} {L : List (Str × F)} {idx : List Nat}
theorem AskE.at_ {as : List D} (h : AskE f as C fs g) {X : Sg → Prop} (q : ∀ sl, X ⟨sl, g⟩) : Ex (f as ⟨[], g⟩) C fs X := Ex.imp h fun S e => by
  obtain ⟨sl, g'⟩ := S
  have e : g' = g := e
  subst e
  exact q sl
theorem met_M (hB : C ∈ Bs_l_met) (hd : hdl Kl_l_met C fs = some d) (hn : noOwns sl = true) (hms : Ok (ms ⟨sl, g⟩) fun ds S1 => AskE f ds C fs S1.g ∧ P d ⟨sl, S1.g⟩) : Ok (metM Bs_l_met Kl_l_met "told" false (callM f ms) ⟨sl, g⟩) P := by
  refine ok_met (X := fun S => P d ⟨sl, S.g⟩) ?_ hB hn hd fun S1 e => e
  refine ex_call (hms.imp fun ds S1 ⟨h1, h2⟩ => ?_)
  exact h1.at_ fun _ => h2
theorem met_K (hB : C ∈ Bs_l_met) (hd : hdl Kl_l_met C fs = some d) (hn : noOwns sl = true) (hms : Ok (ms ⟨sl, g⟩) fun ds S1 => AskE f (perm idx ds) C fs S1.g ∧ P d ⟨sl, S1.g⟩) : Ok (metM Bs_l_met Kl_l_met "told" false (callK f idx ms) ⟨sl, g⟩) P := by
  refine ok_met (X := fun S => P d ⟨sl, S.g⟩) ?_ hB hn hd fun S1 e => e
  unfold callK
  refine ex_bd (hms.imp fun ds S1 ⟨h1, h2⟩ => ?_)
  unfold inF
  have h := h1.at_ (X := fun S => P d ⟨sl, S.g⟩) fun _ => h2
  generalize f (perm idx ds) ⟨[], S1.g⟩ = r at h
  cases h with
  | mk h => exact .mk h
theorem met_V (h8 : sl[i]? = some (.val (.glo nm))) (hf : L.lookup nm = some f) (hB : C ∈ Bs_l_met) (hd : hdl Kl_l_met C fs = some d) (hn : noOwns sl = true) (hms : Ok (ms ⟨sl, g⟩) fun ds S1 => AskE f ds C fs S1.g ∧ P d ⟨sl, S1.g⟩) : Ok (metM Bs_l_met Kl_l_met "told" false (callV L i ms) ⟨sl, g⟩) P := by
  have h := met_M (f := f) hB hd hn hms
  unfold metM at h ⊢
  rw [callV_eq h8 hf]
  exact h
theorem met_VK (h8 : sl[i]? = some (.val (.glo nm))) (hf : L.lookup nm = some f) (hB : C ∈ Bs_l_met) (hd : hdl Kl_l_met C fs = some d) (hn : noOwns sl = true) (hms : Ok (ms ⟨sl, g⟩) fun ds S1 => AskE f (perm idx ds) C fs S1.g ∧ P d ⟨sl, S1.g⟩) : Ok (metM Bs_l_met Kl_l_met "told" false (callVK L i idx ms) ⟨sl, g⟩) P := by
  have h := met_K (f := f) hB hd hn hms
  unfold metM at h ⊢
  rw [callVK_eq h8 hf]
  exact h
end
def nv (x : Slot) : Bool := match x with | .own _ => false | _ => true
theorem nv_val {d : D} : nv (.val d) = true := rfl
theorem nv_emp : nv .emp = true := rfl
theorem noOwns_nv {sl : List Slot} (h : ∀ x ∈ sl, nv x = true) : noOwns sl = true := List.all_eq_true.mpr fun x hx => h x hx
noncomputable def webL : List (Str × F) := [("of_roads", m_of_roads), ("of_places", m_of_places)]
/-- a def that asks for a web first -/
structure Web (nm : Str) (f : F) : Prop where
  l : webL.lookup nm = some f
  w : ∀ {a b c e : D} {C : Str} {fs : List (Str × D)} {g : G}, AskE m_check_web [a, b, c, e] C fs g → AskE f [a, b, c, e] C fs g
theorem web_r : Web "of_roads" m_of_roads := ⟨rfl, ask_roads⟩
theorem web_p : Web "of_places" m_of_places := ⟨rfl, ask_places⟩
def oddP (q : Nat) : List D := [.non, .bl true, .int (-1), .str "3", .lst [.int 3], .box q]
section
variable {g : G} {q r r0 : Nat} {d : D} {n c : Int} {ST HD GL : D} {y5 y6 y7 y9 y10 : Slot} {nm : Str} {f : F}
theorem num_neg : NumIs g (.int (-1)) false := fun P hP => int_number hP
theorem oddP_num (h : g.cs q = some (.dK [])) (hd : d ∈ oddP q) : NumIs g d false := by
  simp only [oddP, List.mem_cons, List.not_mem_nil, or_false] at hd
  rcases hd with rfl | rfl | rfl | rfl | rfl | rfl
  · exact num_odd (odd_of (t := "NoneType") (fun _ => rfl) (.inl (by decide)))
  · exact num_odd (odd_of (t := "bool") (fun _ => rfl) (.inr rfl))
  · exact num_neg
  · exact num_odd (odd_of (t := "str") (fun _ => rfl) (.inl (by decide)))
  · exact num_odd (odd_of (t := "list") (fun _ => rfl) (.inl (by decide)))
  · exact num_odd (odd_of (t := "dict") (fun _ => by simp [tyD, h]) (.inl (by decide)))
theorem same_two {w : Str} {k : Nat} (hw : PyData.strOk w = true) (h : SameR g (k + 1) d d) : SameR g (k + 2) (.tup [.str w, d]) (.tup [.str w, d]) := .all rfl rfl (.cons (.str _ hw) (.cons h .nil))
theorem oddP_same (h : g.cs q = some (.dK [])) (hd : d ∈ oddP q) : SameR g 3 d d := by
  simp only [oddP, List.mem_cons, List.not_mem_nil, or_false] at hd
  rcases hd with rfl | rfl | rfl | rfl | rfl | rfl
  · exact .non _
  · exact .bl _ _
  · exact .int _ _
  · exact .str _ (by decide +kernel)
  · exact .all rfl rfl (.cons (.int _ _) .nil)
  · exact .emp _ _ _ h h
theorem wb1_k (W : Web nm f) (s : St g r r0 c) (h5 : nv y5 = true) (h6 : nv y6 = true) (h7 : nv y7 = true) (h9 : nv y9 = true) (h10 : nv y10 = true) :
    Ok (wb_1 ⟨[.val (.box r), .val (.int n), .val ST, .val HD, .val GL, y5, y6, y7, .val (.glo nm), y9, y10], g⟩) fun fl S => fl = .nx ∧ ∃ (y : Slot) (g' : G), S = ⟨[.val (.box r), .val (.int n), .val ST, .val HD, .val GL, y5, y6, y7, .val (.glo nm), y, y10], g'⟩ ∧ nv y = true ∧ St g' r r0 c := by
  have hsl := sizeLine_eq
  unfold wb_1
  repeat ac_rfl
  have c1 : (g.add (.dK [])).cs g.nx = some (.dK []) := by rw [add_cs, if_pos rfl]
  have s1 : St (g.add (.dK [])) r r0 c := s.add
  refine ok_forM (fun i S => ∃ y, S = ⟨[.val (.box r), .val (.int n), .val ST, .val HD, .val GL, y5, y6, y7, .val (.glo nm), y, y10], g.add (.dK [])⟩ ∧ nv y = true) (fun _ _ _ _ => rfl) ⟨y9, rfl, h9⟩ ?_ ?_
  · rintro i d _ hd ⟨y, rfl, hy⟩
    refine ⟨_, asg_nm, ?_⟩
    have hd : d ∈ oddP g.nx := List.mem_of_getElem? hd
    repeat ac_rfl
    refine met_V (nm := nm) (f := f) (C := "BadPlaces") (fs := [("places", d)]) rfl W.l (by decide) rfl (noOwns_nv (by simp [nv_val, h5, h6, h7, h10])) ?_
    repeat ac_rfl
    refine ⟨W.w (web_places (oddP_num c1 hd)), ?_⟩
    repeat ac_rfl
    have hsm : SameR (g.add (.dK [])) 4 (.tup [.str "places", d]) (.tup [.str "places", d]) := same_two (by decide +kernel) (oddP_same c1 hd)
    refine same_k hsm (by decide) fun _ => ?_
    repeat ac_rfl
    exact ⟨_, rfl, rfl⟩
  · rintro _ ⟨y, rfl, hy⟩
    exact ⟨rfl, y, _, rfl, hy, s1⟩
end
end Lw
end

section
namespace Lw
open PySem L2 Mm
/-! Rkf: k39: roads refused. -/
def pD (p : Int × Int) : D := .tup [.int p.1, .int p.2]
structure GoodP (n : Int) (ps : List (Int × Int)) : Prop where
  len : ps.length ≤ 10
  ok : ∀ p ∈ ps, 0 ≤ p.1 ∧ p.1 < n ∧ 0 ≤ p.2 ∧ p.2 < n ∧ p.1 ≠ p.2
def oddsW (n : Int) (q : Nat) : List D := [.non, .int 5, .tup [], .tup [.int 0], .tup [.int 0, .int 0], .tup [.int 0, .int n], .tup [.int 0, .int (-1)], .tup [.int 0, .bl true], .tup [.int 0, .str "1"], .tup [.int 0, .int 1, .int 2], .str "01", .box q, .lst [.int 0, .non], .tup [.bl true, .int 2], .lst [.non, .int 1]]
section
variable {g g' : G} {q r r0 k : Nat} {d t : D} {n c : Int}
theorem io_bl {b : Bool} : IntOrOdd g (.bl b) := .inr ⟨odd_of (t := "bool") (fun _ => rfl) (.inr rfl), fun z e => by cases e⟩
theorem io_str {x : Str} : IntOrOdd g (.str x) := .inr ⟨odd_of (t := "str") (fun _ => rfl) (.inl (by decide)), fun z e => by cases e⟩
theorem io_non : IntOrOdd g .non := .inr ⟨odd_of (t := "NoneType") (fun _ => rfl) (.inl (by decide)), fun z e => by cases e⟩
theorem ns_non : NoSeq g .non := noseq_of (t := "NoneType") (fun _ => rfl) (by decide) (by decide)
theorem ns_int {z : Int} : NoSeq g (.int z) := noseq_of (t := "int") (fun _ => rfl) (by decide) (by decide)
theorem ns_bl {z : Bool} : NoSeq g (.bl z) := noseq_of (t := "bool") (fun _ => rfl) (by decide) (by decide)
theorem ns_str {z : Str} : NoSeq g (.str z) := noseq_of (t := "str") (fun _ => rfl) (by decide) (by decide)
theorem ns_box {kvs : List (Key × D)} (h : g.cs q = some (.dK kvs)) : NoSeq g (.box q) := noseq_of (t := "dict") (fun _ => by simp [tyD, h]) (by decide) (by decide)
def PlainD (d : D) : Bool := match d with
  | .int _ => true
  | .bl _ => true
  | .str _ => true
  | .non => true
  | _ => false
theorem plain_ns {d : D} (h : PlainD d = true) : NoSeq g d := by
  cases d <;> simp only [PlainD, Bool.false_eq_true] at h
  · exact ns_non
  · exact ns_bl
  · exact ns_int
  · exact ns_str
theorem plain_io {d : D} (h : PlainD d = true) : IntOrOdd g d := by
  cases d <;> simp only [PlainD, Bool.false_eq_true] at h
  · exact io_non
  · exact io_bl
  · exact io_int
  · exact io_str
theorem plain_fl {d : D} (h : PlainD d = true) : Flat1 d := by
  cases d <;> simp only [PlainD, Bool.false_eq_true] at h <;> exact True.intro
theorem shp_plain {d : D} {c : Nat} (h : PlainD d = true) : Shp r r0 (k + 1) c g d := .at1 _ _ _ _ fun _ _ => plain_ns h
theorem shp_seq {b : Bool} {ds : List D} (h : ds.all PlainD = true) (hl : ds.length ≤ 100000) : Shp r r0 (k + 2) 1 g (sq b ds) := .seq (k + 1) 0 1 g b ds hl (fun d hd => shp_plain (List.all_eq_true.mp h d hd)) (by omega)
theorem shp_box {kvs : List (Key × D)} {c : Nat} (h : g.cs q = some (.dK kvs)) (hq : q < g.nx) (h1 : q ≠ r) (h2 : q ≠ r0) : Shp r r0 (k + 1) c g (.box q) := .at1 _ _ _ _ fun _ f => ns_box (f.keep h hq h1 h2)
/-- what stays no pair, however loosely -/
theorem pair_false (h : Lse k d t) (hd : (PlainD d = true) ∨ (∃ kvs q, d = .box q ∧ g.cs q = some (.dK kvs)) ∨ ∃ b ds, d = sq b ds ∧ ds.all PlainD = true ∧ ds.length ≤ 100000 ∧ pairB n ds = false) : PairIs g n t false := by
  rcases hd with hd | ⟨kvs, q, rfl, hq⟩ | ⟨b, ds, rfl, h1, h2, h3⟩
  · rw [lse_atom h (plain_fl hd)]
    exact fun P hP => pair_no (plain_ns hd) hP
  · rw [lse_atom h True.intro]
    exact fun P hP => pair_no (ns_box hq) hP
  · obtain ⟨b', rfl⟩ := lse_flat h fun d hd => plain_fl (List.all_eq_true.mp h1 d hd)
    exact fun P hP => pair_k vw_sq (fun x hx => plain_io (List.all_eq_true.mp h1 x hx)) h2 fun sl => by rw [h3]; exact hP sl
theorem oddW_false {kvs : List (Key × D)} (h : Lse k d t) (hd : d ∈ oddsW n q) (hq : g.cs q = some (.dK kvs)) : PairIs g n t false := by
  refine pair_false h ?_
  simp only [oddsW, List.mem_cons, List.not_mem_nil, or_false] at hd
  rcases hd with rfl | rfl | rfl | rfl | rfl | rfl | rfl | rfl | rfl | rfl | rfl | rfl | rfl | rfl | rfl
  · exact .inl rfl
  · exact .inl rfl
  · exact .inr (.inr ⟨false, _, rfl, rfl, by simp, by simp [pairB]⟩)
  · exact .inr (.inr ⟨false, _, rfl, rfl, by simp, by simp [pairB]⟩)
  · exact .inr (.inr ⟨false, _, rfl, rfl, by simp, by simp [pairB, unlikeB, isNum]⟩)
  · exact .inr (.inr ⟨false, _, rfl, rfl, by simp, by simp [pairB, unlikeB, isNum]⟩)
  · exact .inr (.inr ⟨false, _, rfl, rfl, by simp, by simp [pairB, unlikeB, isNum]⟩)
  · exact .inr (.inr ⟨false, _, rfl, rfl, by simp, by simp [pairB, unlikeB, isNum]⟩)
  · exact .inr (.inr ⟨false, _, rfl, rfl, by simp, by simp [pairB, unlikeB, isNum]⟩)
  · exact .inr (.inr ⟨false, _, rfl, rfl, by simp, by simp [pairB]⟩)
  · exact .inl rfl
  · exact .inr (.inl ⟨_, _, rfl, hq⟩)
  · exact .inr (.inr ⟨true, _, rfl, rfl, by simp, by simp [pairB, unlikeB, isNum]⟩)
  · exact .inr (.inr ⟨false, _, rfl, rfl, by simp, by simp [pairB, unlikeB, isNum]⟩)
  · exact .inr (.inr ⟨true, _, rfl, rfl, by simp, by simp [pairB, unlikeB, isNum]⟩)
theorem oddW_shp {kvs : List (Key × D)} (hd : d ∈ oddsW n q) (h : g.cs q = some (.dK kvs)) (hq : q < g.nx) (h1 : q ≠ r) (h2 : q ≠ r0) : Shp r r0 2 1 g d := by
  simp only [oddsW, List.mem_cons, List.not_mem_nil, or_false] at hd
  rcases hd with rfl | rfl | rfl | rfl | rfl | rfl | rfl | rfl | rfl | rfl | rfl | rfl | rfl | rfl | rfl
  · exact shp_plain rfl
  · exact shp_plain rfl
  · exact shp_seq (b := false) rfl (by simp)
  · exact shp_seq (b := false) rfl (by simp)
  · exact shp_seq (b := false) rfl (by simp)
  · exact shp_seq (b := false) rfl (by simp)
  · exact shp_seq (b := false) rfl (by simp)
  · exact shp_seq (b := false) rfl (by simp)
  · exact shp_seq (b := false) rfl (by simp)
  · exact shp_seq (b := false) rfl (by simp)
  · exact shp_plain rfl
  · exact shp_box h hq h1 h2
  · exact shp_seq (b := true) rfl (by simp)
  · exact shp_seq (b := false) rfl (by simp)
  · exact shp_seq (b := true) rfl (by simp)
theorem pD_true {p : Int × Int} (h : Lse k (pD p) t) (h0 : 0 ≤ p.1 ∧ p.1 < n ∧ 0 ≤ p.2 ∧ p.2 < n ∧ p.1 ≠ p.2) : ∃ b, t = sq b [.int p.1, .int p.2] ∧ PairIs g n t true := by
  obtain ⟨b', rfl⟩ := lse_flat (b := false) (ds := [.int p.1, .int p.2]) h fun d hd => by
    simp only [List.mem_cons, List.not_mem_nil, or_false] at hd
    rcases hd with rfl | rfl <;> exact True.intro
  refine ⟨b', rfl, fun P hP => pair_k vw_sq (fun x hx => ?_) (by simp) fun sl => ?_⟩
  · simp only [List.mem_cons, List.not_mem_nil, or_false] at hx
    rcases hx with rfl | rfl <;> exact io_int
  · have : pairB n [.int p.1, .int p.2] = true := by simp [pairB, unlikeB, isNum, h0.1, h0.2.1, h0.2.2.1, h0.2.2.2.1, h0.2.2.2.2]
    rw [this]; exact hP sl
/-- a list of good things, then a bad one -/
theorem hit_of {A : D → Bool → Prop} {pre post : List D} {x : D} (h : Lse k (.lst (pre ++ [x] ++ post)) t) (hp : ∀ (i : Nat) (y t' : D), pre[i]? = some y → (∃ k', Lse k' y t') → A t' true) (hx : ∀ t' : D, (∃ k', Lse k' x t') → A t' false) : FbIs A g t (.int (pre.length : Nat)) := by
  obtain ⟨b', ts, rfl, hl, ex⟩ := lse_sq (b := true) (ds := pre ++ [x] ++ post) h
  refine .hit pre.length b' ts vw_sq (fun m y hm hy => ?_) ?_
  · have h1 : (pre ++ [x] ++ post)[m]? = some pre[m] := by rw [List.append_assoc, List.getElem?_append_left hm, List.getElem?_eq_getElem hm]
    exact hp m _ y (List.getElem?_eq_getElem hm) (ex m _ _ h1 hy)
  · have hlt : pre.length < ts.length := by rw [← hl, List.length_append, List.length_append, List.length_singleton]; omega
    have h1 : (pre ++ [x] ++ post)[pre.length]? = some x := by rw [List.append_assoc, List.getElem?_append_right (by omega)]; simp
    exact ⟨_, List.getElem?_eq_getElem hlt, hx _ (ex _ _ _ h1 (List.getElem?_eq_getElem hlt))⟩
theorem wb2_k {HD GL : D} {ps : List (Int × Int)} {y5 y6 y7 y8 y9 y10 : Slot} (s : St g r r0 c) :
    Ok (wb_2 ⟨[.val (.box r), .val (.int n), .val (.lst (ps.map pD)), .val HD, .val GL, y5, y6, y7, y8, y9, y10], g⟩) fun fl S => fl = .nx ∧ ∃ (q : Nat) (g' : G) (kvs : List (Key × D)), S = ⟨[.val (.box r), .val (.int n), .val (.lst (ps.map pD)), .val HD, .val GL, .val (.lst ((oddsW n q).take 12)), y6, y7, y8, y9, y10], g'⟩ ∧ g'.cs q = some (.dK kvs) ∧ q < g'.nx ∧ q ≠ r ∧ q ≠ r0 ∧ St g' r r0 c := by
  have hsl := sizeLine_eq
  unfold wb_2
  repeat ac_rfl
  refine ⟨rfl, g.nx, g.add (.dK (mergeDK [] [(.inl 0, .int 1), (.inl 1, .int 0)])), _, rfl, by rw [add_cs, if_pos rfl], by rw [add_nx]; omega, fun e => ?_, fun e => ?_, s.add⟩
  · have h := s.l1
    omega
  · have h := s.l2
    omega
theorem wb3_k {nm : Str} {f : F} {HD GL : D} {ps : List (Int × Int)} {kvs : List (Key × D)} {y6 y7 y9 y10 : Slot} (W : Web nm f) (s : St g r r0 c) (hc : c + 10000 ≤ 100000000000000) (hP : GoodP n ps) (n0 : 0 ≤ n) (hq : g.cs q = some (.dK kvs)) (hu : q < g.nx) (h1 : q ≠ r) (h2 : q ≠ r0) (h6 : nv y6 = true) (h7 : nv y7 = true) (h9 : nv y9 = true) (h10 : nv y10 = true) :
    Ok (wb_3 ⟨[.val (.box r), .val (.int n), .val (.lst (ps.map pD)), .val HD, .val GL, .val (.lst ((oddsW n q).take 12)), y6, y7, .val (.glo nm), y9, y10], g⟩) fun fl S => fl = .nx ∧ ∃ (y6 y9 y10 : Slot) (g' : G), S = ⟨[.val (.box r), .val (.int n), .val (.lst (ps.map pD)), .val HD, .val GL, .val (.lst ((oddsW n q).take 12)), y6, y7, .val (.glo nm), y9, y10], g'⟩ ∧ nv y6 = true ∧ nv y9 = true ∧ nv y10 = true ∧ St g' r r0 (c + 10000) := by
  have hsl := sizeLine_eq
  have hlen := hP.len
  unfold wb_3
  repeat ac_rfl
  rotate_left
  · simp [oddsW]; omega
  refine ok_forM (fun i S => ∃ (y6 y9 y10 : Slot) (g' : G), S = ⟨[.val (.box r), .val (.int n), .val (.lst (ps.map pD)), .val HD, .val GL, .val (.lst ((oddsW n q).take 12)), y6, y7, .val (.glo nm), y9, y10], g'⟩ ∧ nv y6 = true ∧ nv y9 = true ∧ nv y10 = true ∧ St g' r r0 (c + i * 100) ∧ Fr r r0 g g') (fun _ _ _ _ => rfl) ⟨y6, y9, y10, g, rfl, h6, h9, h10, by simpa using s, .refl g⟩ ?_ ?_
  · rintro i d _ hd ⟨z6, z9, z10, g1, rfl, k6, k9, k10, s1, f1⟩
    refine ⟨_, asg_nm, ?_⟩
    have hd : (oddsW n q)[i]? = some d := hd
    have hi : i < 15 := (List.getElem?_eq_some_iff.mp hd).1
    have hd := List.mem_of_getElem? hd
    repeat ac_rfl
    refine draw_k s1 (by omega) (by omega) (by rw [List.length_map]; omega) fun z _ g2 z0 z1 s2 f2 => ?_
    rw [List.length_map] at z1
    obtain ⟨j, rfl⟩ := Int.eq_ofNat_of_zero_le z0
    have hj : j ≤ ps.length := by omega
    have s2 : St g2 r r0 (c + i * 100 + 1) := s2
    have f2 : Fr r r0 g1 g2 := f2
    have e1 : cutD (ps.map pD) none (some ((j : Nat) : Int)) = (ps.take j).map pD := by rw [cutI_to (by omega), Int.toNat_natCast]
    have e2 : cutD (ps.map pD) (some ((j : Nat) : Int)) none = (ps.drop j).map pD := by rw [cutI_from (by omega), Int.toNat_natCast]
    repeat ac_rfl
    rotate_left
    all_goals try (simp only [List.length_append, e1, e2, List.length_map, List.length_take, List.length_drop, List.length_cons, List.length_nil]; omega)
    dsimp only [st_mk, List.set_cons_succ, List.set_cons_zero]
    rw [e1, e2]
    have q2 : g2.cs q = some (.dK kvs) := (f1.trans f2).keep hq hu h1 h2
    have u2 : q < g2.nx := Nat.lt_of_lt_of_le hu (f1.trans f2).nx
    have hpl : ((ps.take j).map pD).length = j := by rw [List.length_map, List.length_take]; omega
    have shp : Shp r r0 3 20 g2 (.lst ((ps.take j).map pD ++ [d] ++ (ps.drop j).map pD ++ [.non])) := by
      refine .seq 2 1 20 g2 true _ ?_ (fun x hx => ?_) ?_
      · simp only [List.length_append, List.length_map, List.length_take, List.length_drop, List.length_cons, List.length_nil]; omega
      · simp only [List.mem_append, List.mem_map, List.mem_singleton] at hx
        rcases hx with ((⟨p, _, rfl⟩ | rfl) | ⟨p, _, rfl⟩) | rfl
        · exact shp_seq (b := false) rfl (by simp)
        · exact oddW_shp hd q2 u2 h1 h2
        · exact shp_seq (b := false) rfl (by simp)
        · exact shp_plain rfl
      · simp only [List.length_append, List.length_map, List.length_take, List.length_drop, List.length_cons, List.length_nil]; omega
    refine met_V (nm := nm) (f := f) (C := "BadRoads") (fs := [("index", .int (j : Nat))]) rfl W.l (by decide) rfl (noOwns_nv (by simp [nv_val, h7])) ?_
    repeat ac_rfl
    refine (loose_ok 3 60 20 _ g2 _ shp (by omega) s2 (by omega)).imp ?_
    rintro t ⟨_, g3⟩ ⟨s3, f3, hL⟩
    have s3 : St g3 r r0 (c + i * 100 + 1 + 20) := s3
    have f3 : Fr r r0 g2 g3 := f3
    have q3 : g3.cs q = some (.dK kvs) := f3.keep q2 u2 h1 h2
    have hit : FbIs (PairIs g3 n) g3 t (.int (j : Nat)) := by
      have := hit_of (g := g3) (A := PairIs g3 n) (pre := (ps.take j).map pD) (x := d) (post := (ps.drop j).map pD ++ [.non]) (k := 3) (t := t) (by rw [List.append_assoc] at hL ⊢; simpa using hL) (fun i y t' hy ⟨k', hl⟩ => ?_) (fun t' ⟨k', hl⟩ => oddW_false hl hd q3)
      · rw [hpl] at this; exact this
      · rw [List.getElem?_map] at hy
        cases e : (ps.take j)[i]? with
        | none => rw [e] at hy; cases hy
        | some p =>
          rw [e] at hy
          cases hy
          obtain ⟨b, _, h⟩ := pD_true (g := g3) hl (hP.ok p (List.mem_of_mem_take (List.mem_of_getElem? e)))
          exact h
    repeat ac_rfl
    refine ⟨W.w (web_roads n0 hit), ?_⟩
    repeat ac_rfl
    have hsm : SameR g3 3 (.tup [.str "roads", .int (j : Nat)]) (.tup [.str "roads", .int (j : Nat)]) := same_two (by decide +kernel) (.int _ _)
    refine same_k hsm (by decide) fun _ => ?_
    repeat ac_rfl
    exact ⟨_, _, _, g3, rfl, rfl, rfl, rfl, s3.mono (by simp; omega), (f1.trans f2).trans f3⟩
  · rintro _ ⟨z6, z9, z10, g1, rfl, k6, k9, k10, s1, f1⟩
    exact ⟨rfl, z6, z9, z10, g1, rfl, k6, k9, k10, s1.mono (by simp; omega)⟩
end
end Lw
end

section
namespace Lw
open PySem L2 Mm
/-! Rkg: k39: begins, ends refused. -/
def oddR (q : Nat) : List D := [.non, .int 5, .str "ab", .box q, .bl true]
def oddB (n : Int) (q : Nat) : List D := [.non, .int 5, .str "0", .box q, .bl true, .lst [.int n], .lst [.int 0, .int 0], .lst [.int (-1)], .lst [.bl true], .lst [.str "0"], .lst [.non], .lst [.lst [.int 0]], .tup [.int 0, .int 1, .int 0]]
section
variable {g : G} {q r r0 : Nat} {d : D} {n c a b e : Int} {ps : List (Int × Int)} {HD GL : D} {y5 y6 y7 y9 y10 : Slot} {nm : Str} {f : F} {kvs : List (Key × D)}
theorem oddR_no (h : g.cs q = some (.dK kvs)) (hd : d ∈ oddR q) : NoSeq g d := by
  simp only [oddR, List.mem_cons, List.not_mem_nil, or_false] at hd
  rcases hd with rfl | rfl | rfl | rfl | rfl
  · exact ns_non
  · exact ns_int
  · exact ns_str
  · exact ns_box h
  · exact ns_bl
theorem wb4_k (W : Web nm f) (n0 : 0 ≤ n) (s : St g r r0 c) (h5 : nv y5 = true) (h6 : nv y6 = true) (h7 : nv y7 = true) (h9 : nv y9 = true) (h10 : nv y10 = true) :
    Ok (wb_4 ⟨[.val (.box r), .val (.int n), .val (.lst (ps.map pD)), .val HD, .val GL, y5, y6, y7, .val (.glo nm), y9, y10], g⟩) fun fl S => fl = .nx ∧ ∃ (y : Slot) (g' : G), S = ⟨[.val (.box r), .val (.int n), .val (.lst (ps.map pD)), .val HD, .val GL, y5, y6, y7, .val (.glo nm), y, y10], g'⟩ ∧ nv y = true ∧ St g' r r0 c := by
  have hsl := sizeLine_eq
  unfold wb_4
  repeat ac_rfl
  have c1 : (g.add (.dK [])).cs g.nx = some (.dK []) := by rw [add_cs, if_pos rfl]
  have s1 : St (g.add (.dK [])) r r0 c := s.add
  refine ok_forM (fun i S => ∃ y, S = ⟨[.val (.box r), .val (.int n), .val (.lst (ps.map pD)), .val HD, .val GL, y5, y6, y7, .val (.glo nm), y, y10], g.add (.dK [])⟩ ∧ nv y = true) (fun _ _ _ _ => rfl) ⟨y9, rfl, h9⟩ ?_ ?_
  · rintro i d _ hd ⟨y, rfl, hy⟩
    refine ⟨_, asg_nm, ?_⟩
    have hd : d ∈ oddR g.nx := List.mem_of_getElem? hd
    repeat ac_rfl
    refine met_V (nm := nm) (f := f) (C := "BadRoads") (fs := [("index", .int 0)]) rfl W.l (by decide) rfl (noOwns_nv (by simp [nv_val, h5, h6, h7, h10])) ?_
    repeat ac_rfl
    refine ⟨W.w (web_roads n0 (.no (oddR_no c1 hd))), ?_⟩
    repeat ac_rfl
    have hsm : SameR (g.add (.dK [])) 3 (.tup [.str "roads", .int 0]) (.tup [.str "roads", .int 0]) := same_two (by decide +kernel) (.int _ _)
    refine same_k hsm (by decide) fun _ => ?_
    repeat ac_rfl
    exact ⟨_, rfl, rfl⟩
  · rintro _ ⟨y, rfl, hy⟩
    exact ⟨rfl, y, _, rfl, hy, s1⟩
theorem ps_all (hP : GoodP n ps) : FbIs (PairIs g n) g (.lst (ps.map pD)) .non := .all true _ rfl fun x hx => by
  obtain ⟨p, hp, rfl⟩ := List.mem_map.mp hx
  obtain ⟨b, e, h⟩ := pD_true (g := g) (Lse.at1 0 (pD p)) (hP.ok p hp)
  exact h
theorem lot_lst {ds : List D} {b : Bool} (h : ds.all PlainD = true) (hl : ds.length ≤ 100000) (hu : unlikeB n ds = false) : NoLot g n (sq b ds) := .inr ⟨b, ds, vw_sq, fun x hx => plain_io (List.all_eq_true.mp h x hx), hl, hu⟩
theorem oddB_no (h : g.cs q = some (.dK kvs)) (hd : d ∈ oddB n q) : NoLot g n d := by
  simp only [oddB, List.mem_cons, List.not_mem_nil, or_false] at hd
  rcases hd with rfl | rfl | rfl | rfl | rfl | rfl | rfl | rfl | rfl | rfl | rfl | rfl | rfl
  · exact .inl ns_non
  · exact .inl ns_int
  · exact .inl ns_str
  · exact .inl (ns_box h)
  · exact .inl ns_bl
  · exact lot_lst (b := true) rfl (by simp) (by simp [unlikeB, isNum])
  · exact lot_lst (b := true) rfl (by simp) (by simp [unlikeB, isNum])
  · exact lot_lst (b := true) rfl (by simp) (by simp [unlikeB, isNum])
  · exact lot_lst (b := true) rfl (by simp) (by simp [unlikeB, isNum])
  · exact lot_lst (b := true) rfl (by simp) (by simp [unlikeB, isNum])
  · exact lot_lst (b := true) rfl (by simp) (by simp [unlikeB, isNum])
  · refine noLot_lst (fun x hx => ?_) (by simp) (by simp [unlikeB, isNum])
    rw [List.mem_singleton.mp hx]
    exact .inr ⟨odd_of (t := "list") (fun _ => rfl) (.inl (by decide)), fun z e => by cases e⟩
  · exact lot_lst (b := false) rfl (by simp) (by simp [unlikeB])
theorem oddB_same (h : g.cs q = some (.dK [])) (hd : d ∈ oddB n q) : SameR g 3 d d := by
  have i1 : ∀ (z : Int), SameR g 2 (.int z) (.int z) := fun z => .int _ _
  simp only [oddB, List.mem_cons, List.not_mem_nil, or_false] at hd
  rcases hd with rfl | rfl | rfl | rfl | rfl | rfl | rfl | rfl | rfl | rfl | rfl | rfl | rfl
  · exact .non _
  · exact .int _ _
  · exact .str _ (by decide +kernel)
  · exact .emp _ _ _ h h
  · exact .bl _ _
  · exact .all rfl rfl (.cons (i1 _) .nil)
  · exact .all rfl rfl (.cons (i1 _) (.cons (i1 _) .nil))
  · exact .all rfl rfl (.cons (i1 _) .nil)
  · exact .all rfl rfl (.cons (.bl _ _) .nil)
  · exact .all rfl rfl (.cons (.str _ (by decide +kernel)) .nil)
  · exact .all rfl rfl (.cons (.non _) .nil)
  · exact .all rfl rfl (.cons (.all rfl rfl (.cons (.int _ _) .nil)) .nil)
  · exact .all rfl rfl (.cons (i1 _) (.cons (i1 _) (.cons (i1 _) .nil)))
theorem wb5_k {hs : List Int} (W : Web nm f) (n0 : 0 ≤ n) (hP : GoodP n ps) (hh : Uq n hs) (hl : hs.length ≤ 1000) (s : St g r r0 c) (h5 : nv y5 = true) (h6 : nv y6 = true) (h7 : nv y7 = true) (h9 : nv y9 = true) (h10 : nv y10 = true) :
    Ok (wb_5 ⟨[.val (.box r), .val (.int n), .val (.lst (ps.map pD)), .val (dInts hs), .val GL, y5, y6, y7, .val (.glo nm), y9, y10], g⟩) fun fl S => fl = .nx ∧ ∃ (y7 y : Slot) (g' : G), S = ⟨[.val (.box r), .val (.int n), .val (.lst (ps.map pD)), .val (dInts hs), .val GL, y5, y6, y7, .val (.glo nm), y, y10], g'⟩ ∧ nv y7 = true ∧ nv y = true ∧ St g' r r0 c := by
  have hsl := sizeLine_eq
  unfold wb_5
  repeat ac_rfl
  have c1 : (g.add (.dK [])).cs g.nx = some (.dK []) := by rw [add_cs, if_pos rfl]
  have u1 : g.nx < (g.add (.dK [])).nx := by rw [add_nx]; omega
  have s1 : St (g.add (.dK [])) r r0 c := s.add
  have n1 := s.l1
  have n2 := s.l2
  refine ok_forM (fun i S => ∃ (y7 y : Slot) (g' : G), S = ⟨[.val (.box r), .val (.int n), .val (.lst (ps.map pD)), .val (dInts hs), .val GL, y5, y6, y7, .val (.glo nm), y, y10], g'⟩ ∧ nv y7 = true ∧ nv y = true ∧ St g' r r0 c ∧ g'.cs g.nx = some (.dK []) ∧ g.nx < g'.nx) (fun _ _ _ _ => rfl) ⟨y7, y9, _, rfl, h7, h9, s1, c1, u1⟩ ?_ ?_
  · rintro i d _ hd ⟨z7, z9, g1, rfl, k7, k9, s1, c1, u1⟩
    refine ⟨_, asg_nm, ?_⟩
    have hd : d ∈ oddB n g.nx := List.mem_of_getElem? hd
    repeat ac_rfl
    refine met_V (nm := nm) (f := f) (C := "BadBegins") (fs := [("begins", d)]) rfl W.l (by decide) rfl (noOwns_nv (by simp [nv_val, h5, h6, k7, h10])) ?_
    repeat ac_rfl
    refine ⟨W.w (web_begins n0 (ps_all hP) (oddB_no c1 hd)), ?_⟩
    repeat ac_rfl
    have c2 : (g1.add (.lst [.tup [.str "begins", d]])).cs g1.nx = some (.lst [.tup [.str "begins", d]]) := by rw [add_cs, if_pos rfl]
    have s2 : St (g1.add (.lst [.tup [.str "begins", d]])) r r0 c := s1.add
    have c3 : (g1.add (.lst [.tup [.str "begins", d]])).cs g.nx = some (.dK []) := by rw [add_cs, if_neg (by omega)]; exact c1
    have u3 : g.nx < (g1.add (.lst [.tup [.str "begins", d]])).nx := by rw [add_nx]; omega
    have u2 : g1.nx < (g1.add (.lst [.tup [.str "begins", d]])).nx := by rw [add_nx]; omega
    have m1 := s1.l1
    have m2 := s1.l2
    refine onL_of c2 ?_
    repeat ac_rfl
    refine met_V (nm := nm) (f := f) (C := "BadEnds") (fs := [("ends", d)]) rfl W.l (by decide) rfl (noOwns_nv (by simp [nv_val, h5, h6, h10])) ?_
    repeat ac_rfl
    refine ⟨W.w (web_ends n0 (ps_all hP) (fun P hP => uq_k vwD_dI hh (by omega) hP) (oddB_no c3 hd)), ?_⟩
    repeat ac_rfl
    show Ok (m_l_same 60 [.box g1.nx, .lst [.tup [.str "begins", d], .tup [.str "ends", d]]] ⟨[], (g1.add (.lst [.tup [.str "begins", d]])).put g1.nx (.lst [.tup [.str "begins", d], .tup [.str "ends", d]])⟩) _
    have c4 : ((g1.add (.lst [.tup [.str "begins", d]])).put g1.nx (.lst [.tup [.str "begins", d], .tup [.str "ends", d]])).cs g1.nx = some (.lst [.tup [.str "begins", d], .tup [.str "ends", d]]) := by rw [put_cs, if_pos rfl]
    have c5 : ((g1.add (.lst [.tup [.str "begins", d]])).put g1.nx (.lst [.tup [.str "begins", d], .tup [.str "ends", d]])).cs g.nx = some (.dK []) := by rw [put_cs, if_neg (by omega)]; exact c3
    have s4 : St ((g1.add (.lst [.tup [.str "begins", d]])).put g1.nx (.lst [.tup [.str "begins", d], .tup [.str "ends", d]])) r r0 c := s2.put (by omega) (by omega)
    have u4 : g.nx < ((g1.add (.lst [.tup [.str "begins", d]])).put g1.nx (.lst [.tup [.str "begins", d], .tup [.str "ends", d]])).nx := u3
    generalize ((g1.add (.lst [.tup [.str "begins", d]])).put g1.nx (.lst [.tup [.str "begins", d], .tup [.str "ends", d]])) = g4 at c4 c5 s4 u4 ⊢
    have hsm : SameR g4 5 (.box g1.nx) (.lst [.tup [.str "begins", d], .tup [.str "ends", d]]) := .all (vwD_box c4) rfl (.cons (same_two (by decide +kernel) (oddB_same c5 hd)) (.cons (same_two (by decide +kernel) (oddB_same c5 hd)) .nil))
    refine same_k hsm (by decide) fun _ => ?_
    repeat ac_rfl
    exact ⟨_, _, g4, rfl, rfl, rfl, s4, c5, u4⟩
  · rintro _ ⟨y7, y, g', rfl, k7, k9, s1, _⟩
    exact ⟨rfl, y7, y, _, rfl, k7, k9, s1⟩
end
end Lw
end

section
namespace Lw
open PySem L2 Mm
/-! Rkh: k39: webs refused. -/
def endsL (a b e : Int) : List D := [.lst [.int a, .int b], .tup [.int a], .lst [.int a, .int e], .lst [.int e, .int b], .lst [.int e, .int a]]
structure Three (n a b e : Int) : Prop where
  ba : 0 ≤ a ∧ a < n
  bb : 0 ≤ b ∧ b < n
  be : 0 ≤ e ∧ e < n
  n1 : a ≠ b
  n2 : a ≠ e
  n3 : b ≠ e
section
variable {g : G} {q r r0 : Nat} {d : D} {n c a b e : Int} {ps : List (Int × Int)} {y5 y6 y7 y9 y10 : Slot} {nm : Str} {f : F}
theorem Three.hs (h : Three n a b e) : Uq n [a, b] := ⟨by simp [h.n1], fun z hz => by
  simp only [List.mem_cons, List.not_mem_nil, or_false] at hz
  rcases hz with rfl | rfl
  · exact h.ba
  · exact h.bb⟩
theorem ends_at (h : Three n a b e) (hd : d ∈ endsL a b e) : ∃ (k : Bool) (es : List Int), d = sq k (es.map D.int) ∧ Uq n es ∧ es.length ≤ 2 ∧ ∃ z ∈ es, z ∈ [a, b] := by
  obtain ⟨h1, h2, h3, h4, h5, h6⟩ := h
  simp only [endsL, List.mem_cons, List.not_mem_nil, or_false] at hd
  rcases hd with rfl | rfl | rfl | rfl | rfl
  · exact ⟨true, [a, b], rfl, ⟨by simp [h4], fun z hz => by simp only [List.mem_cons, List.not_mem_nil, or_false] at hz; rcases hz with rfl | rfl <;> assumption⟩, by simp, a, by simp, by simp⟩
  · exact ⟨false, [a], rfl, ⟨by simp, fun z hz => by simp only [List.mem_cons, List.not_mem_nil, or_false] at hz; subst hz; assumption⟩, by simp, a, by simp, by simp⟩
  · exact ⟨true, [a, e], rfl, ⟨by simp [h5], fun z hz => by simp only [List.mem_cons, List.not_mem_nil, or_false] at hz; rcases hz with rfl | rfl <;> assumption⟩, by simp, a, by simp, by simp⟩
  · exact ⟨true, [e, b], rfl, ⟨by simp [Ne.symm h6], fun z hz => by simp only [List.mem_cons, List.not_mem_nil, or_false] at hz; rcases hz with rfl | rfl <;> assumption⟩, by simp, b, by simp, by simp⟩
  · exact ⟨true, [e, a], rfl, ⟨by simp [Ne.symm h5], fun z hz => by simp only [List.mem_cons, List.not_mem_nil, or_false] at hz; rcases hz with rfl | rfl <;> assumption⟩, by simp, a, by simp, by simp⟩
theorem ends_same (hd : d ∈ endsL a b e) : SameR g 3 d d := by
  have i1 : ∀ (z : Int), SameR g 2 (.int z) (.int z) := fun z => .int _ _
  simp only [endsL, List.mem_cons, List.not_mem_nil, or_false] at hd
  rcases hd with rfl | rfl | rfl | rfl | rfl
  · exact .all rfl rfl (.cons (i1 _) (.cons (i1 _) .nil))
  · exact .all rfl rfl (.cons (i1 _) .nil)
  · exact .all rfl rfl (.cons (i1 _) (.cons (i1 _) .nil))
  · exact .all rfl rfl (.cons (i1 _) (.cons (i1 _) .nil))
  · exact .all rfl rfl (.cons (i1 _) (.cons (i1 _) .nil))
theorem wb6_k (W : Web nm f) (n0 : 0 ≤ n) (hP : GoodP n ps) (h3 : Three n a b e) (s : St g r r0 c) (h5 : nv y5 = true) (h6 : nv y6 = true) (h7 : nv y7 = true) (h9 : nv y9 = true) (h10 : nv y10 = true) :
    Ok (wb_6 ⟨[.val (.box r), .val (.int n), .val (.lst (ps.map pD)), .val (dInts [a, b]), .val (dInts [e]), y5, y6, y7, .val (.glo nm), y9, y10], g⟩) fun fl S => fl = .nx ∧ ∃ (y : Slot), S = ⟨[.val (.box r), .val (.int n), .val (.lst (ps.map pD)), .val (dInts [a, b]), .val (dInts [e]), y5, y6, y7, .val (.glo nm), y, y10], g⟩ ∧ nv y = true := by
  have hsl := sizeLine_eq
  have e1 : cutD [D.int a, D.int b] none (some 1) = [.int a] := rfl
  have e2 : cutD [D.int a, D.int b] (some 1) none = [.int b] := rfl
  unfold wb_6
  repeat ac_rfl
  show Ok (tupleF (true, cutD [D.int a, D.int b] none (some 1)) _) _
  repeat ac_rfl
  rotate_left
  · exact (show (2 : Nat) ≤ sizeLine by omega)
  · exact (show (2 : Nat) ≤ sizeLine by omega)
  · exact (show (2 : Nat) ≤ sizeLine by omega)
  refine ok_forM (fun i S => ∃ y, S = ⟨[.val (.box r), .val (.int n), .val (.lst (ps.map pD)), .val (dInts [a, b]), .val (dInts [e]), y5, y6, y7, .val (.glo nm), y, y10], g⟩ ∧ nv y = true) (fun _ _ _ _ => rfl) ⟨y9, rfl, h9⟩ ?_ ?_
  · rintro i d _ hd ⟨y, rfl, hy⟩
    refine ⟨_, asg_nm, ?_⟩
    have hd : (endsL a b e)[i]? = some d := hd
    have hd := List.mem_of_getElem? hd
    obtain ⟨k, es, rfl, hu, hel, hz⟩ := ends_at h3 hd
    repeat ac_rfl
    refine met_VK (nm := nm) (f := f) (C := "BadEnds") (fs := [("ends", sq k (es.map D.int))]) rfl W.l (by decide) rfl (noOwns_nv (by simp [nv_val, h5, h6, h7, h10])) ?_
    repeat ac_rfl
    refine ⟨W.w (web_ends2 n0 (ps_all hP) (row := [a, b]) rfl h3.hs vw_sq hu (by simp) (by omega) hz), ?_⟩
    repeat ac_rfl
    have hsm : SameR g 4 (.tup [.str "ends", sq k (es.map D.int)]) (.tup [.str "ends", sq k (es.map D.int)]) := same_two (by decide +kernel) (ends_same hd)
    refine same_k hsm (by decide) fun _ => ?_
    repeat ac_rfl
    exact ⟨_, rfl, rfl⟩
  · rintro _ ⟨y, rfl, hy⟩
    exact ⟨rfl, y, rfl, hy⟩
theorem webs_right_k {Q : D → Sg → Prop} (n0 : 0 ≤ n) (hP : GoodP n ps) (h3 : Three n a b e) (s : St g r r0 c) (hc : c + 100000 ≤ 100000000000000) (q : ∀ sl g', St g' r r0 (c + 100000) → Q (.bl true) ⟨sl, g'⟩) : Ok (m_l_webs_right [.box r, .int n, .lst (ps.map pD), dInts [a, b], dInts [e]] ⟨[], g⟩) Q := by
  have hsl := sizeLine_eq
  unfold m_l_webs_right
  rw [ok_runF, wb_eq]
  have esl : slots 11 [.box r, .int n, .lst (ps.map pD), dInts [a, b], dInts [e]] = [.val (.box r), .val (.int n), .val (.lst (ps.map pD)), .val (dInts [a, b]), .val (dInts [e]), .emp, .emp, .emp, .emp, .emp, .emp] := rfl
  rw [esl]
  repeat ac_rfl
  refine Ok.imp (Q := fun fl S => fl = .nx ∧ ∃ (y5 y6 y7 y8 y9 y10 : Slot) (g' : G), S = ⟨[.val (.box r), .val (.int n), .val (.lst (ps.map pD)), .val (dInts [a, b]), .val (dInts [e]), y5, y6, y7, y8, y9, y10], g'⟩ ∧ nv y5 = true ∧ nv y6 = true ∧ nv y7 = true ∧ nv y9 = true ∧ nv y10 = true ∧ St g' r r0 (c + 100000)) ?_ ?_
  · refine ok_forM (fun i S => ∃ (y5 y6 y7 y8 y9 y10 : Slot) (g' : G), S = ⟨[.val (.box r), .val (.int n), .val (.lst (ps.map pD)), .val (dInts [a, b]), .val (dInts [e]), y5, y6, y7, y8, y9, y10], g'⟩ ∧ nv y5 = true ∧ nv y6 = true ∧ nv y7 = true ∧ nv y9 = true ∧ nv y10 = true ∧ St g' r r0 (c + i * 10000)) (fun _ _ _ _ => rfl) ⟨_, _, _, _, _, _, _, rfl, rfl, rfl, rfl, rfl, rfl, by simpa using s⟩ ?_ ?_
    · rintro i d _ hd ⟨y5, y6, y7, y8, y9, y10, g1, rfl, k5, k6, k7, k9, k10, s1⟩
      refine ⟨_, asg_nm, ?_⟩
      have hd : ([.glo "of_roads", .glo "of_places"] : List D)[i]? = some d := hd
      have hi : i < 2 := (List.getElem?_eq_some_iff.mp hd).1
      obtain ⟨nm, f, rfl, W⟩ : ∃ nm f, d = .glo nm ∧ Web nm f := by
        have hm := List.mem_of_getElem? hd
        simp only [List.mem_cons, List.not_mem_nil, or_false] at hm
        rcases hm with rfl | rfl
        · exact ⟨_, _, rfl, web_r⟩
        · exact ⟨_, _, rfl, web_p⟩
      rw [ok_seqM]
      refine (wb1_k W s1 k5 k6 k7 k9 k10).imp ?_
      rintro _ _ ⟨rfl, z9, g2, rfl, m9, s2⟩
      rw [seqQ_nx, ok_seqM]
      refine (wb2_k s2).imp ?_
      rintro _ _ ⟨rfl, q, g3, kvs, rfl, hq, hu, q1, q2, s3⟩
      rw [seqQ_nx, ok_seqM]
      refine (wb3_k W s3 (by omega) hP n0 hq hu q1 q2 k6 k7 m9 k10).imp ?_
      rintro _ _ ⟨rfl, w6, w9, w10, g4, rfl, j6, j9, j10, s4⟩
      rw [seqQ_nx, ok_seqM]
      refine (wb4_k W n0 s4 rfl j6 k7 j9 j10).imp ?_
      rintro _ _ ⟨rfl, v9, g5, rfl, l9, s5⟩
      rw [seqQ_nx, ok_seqM]
      refine (wb5_k W n0 hP h3.hs (by simp) s5 rfl j6 k7 l9 j10).imp ?_
      rintro _ _ ⟨rfl, v7, x9, g6, rfl, l7, o9, s6⟩
      rw [seqQ_nx]
      refine (wb6_k W n0 hP h3 s6 rfl j6 l7 o9 j10).imp ?_
      rintro _ _ ⟨rfl, p9, rfl, r9⟩
      exact ⟨_, _, _, _, _, _, g6, rfl, rfl, j6, l7, r9, j10, s6.mono (by simp; omega)⟩
    · rintro _ ⟨y5, y6, y7, y8, y9, y10, g1, rfl, k5, k6, k7, k9, k10, s1⟩
      exact ⟨rfl, _, _, _, _, _, _, g1, rfl, k5, k6, k7, k9, k10, s1.mono (by simp)⟩
  · rintro _ _ ⟨rfl, y5, y6, y7, y8, y9, y10, g1, rfl, k5, k6, k7, k9, k10, s1⟩
    repeat ac_rfl
    exact q _ _ s1
end
end Lw
end

section
namespace Lw
open PySem L2 Mm
/-! Rki: k39: orders, rows refused. -/
noncomputable def thgL : List (Str × F) := [("of_order", m_of_order), ("of_leaps", m_of_leaps)]
structure Thg (nm : Str) (f : F) : Prop where
  l : thgL.lookup nm = some f
  w : ∀ {d T : D} {g : G}, NumIs g d false → AskE f [d, T] "BadMany" [("many", d)] g
theorem thg_o : Thg "of_order" m_of_order := ⟨rfl, ord_many⟩
theorem thg_l : Thg "of_leaps" m_of_leaps := ⟨rfl, leap_many⟩
def pairL (n : Int) : List D := [.tup [.int 0, .int 1], .lst [.int 0, .int (n - 1)]]
def rowL : List D := [.lst [.int 0], .lst [], .tup [.int 1, .int 0]]
def oddsO (n : Int) (q : Nat) : List D := [.non, .int 5, .tup [], .tup [.int 0], .tup [.int 1, .int 0], .tup [.int 0, .int 0], .tup [.int 0, .int n], .tup [.int (-1), .int 0], .tup [.int 0, .bl true], .tup [.int 0, .str "1"], .tup [.int 0, .int 1, .int 2], .str "01", .box q, .tup [.bl false, .int 2], .lst [.non, .int 1]]
section
variable {g : G} {q r r0 k : Nat} {d t : D} {n c : Int} {y4 y5 y6 y7 y8 y9 PL RL : Slot} {kvs : List (Key × D)}
theorem ord_pair {b : Bool} {a e : Int} (h : 0 ≤ a ∧ a < n ∧ 0 ≤ e ∧ e < n ∧ a ≠ e) : OrdIs g n (sq b [.int a, .int e]) (decide (a < e)) := by
  refine .two b a e vw_sq fun P hP => pair_k vw_sq (fun x hx => ?_) (by simp) fun sl => ?_
  · simp only [List.mem_cons, List.not_mem_nil, or_false] at hx
    rcases hx with rfl | rfl <;> exact io_int
  · have : pairB n [.int a, .int e] = true := by simp [pairB, unlikeB, isNum, h.1, h.2.1, h.2.2.1, h.2.2.2.1, h.2.2.2.2]
    rw [this]; exact hP sl
theorem flat2 {a e : Int} : ∀ x ∈ ([.int a, .int e] : List D), Flat1 x := fun x hx => by
  simp only [List.mem_cons, List.not_mem_nil, or_false] at hx
  rcases hx with rfl | rfl <;> exact True.intro
theorem pairL_true (n3 : 3 ≤ n) (hd : d ∈ pairL n) (h : Lse k d t) : OrdIs g n t true := by
  simp only [pairL, List.mem_cons, List.not_mem_nil, or_false] at hd
  rcases hd with rfl | rfl
  · obtain ⟨b, rfl⟩ := lse_flat (b := false) h flat2
    have := ord_pair (g := g) (b := b) (n := n) (a := 0) (e := 1) (by omega)
    rwa [decide_eq_true (by omega)] at this
  · obtain ⟨b, rfl⟩ := lse_flat (b := true) h flat2
    have := ord_pair (g := g) (b := b) (n := n) (a := 0) (e := n - 1) (by omega)
    rwa [decide_eq_true (by omega)] at this
theorem oddO_false (n3 : 3 ≤ n) (h : Lse k d t) (hd : d ∈ oddsO n q) (hq : g.cs q = some (.dK kvs)) : OrdIs g n t false := by
  by_cases h10 : d = .tup [.int 1, .int 0]
  · subst h10
    obtain ⟨b, rfl⟩ := lse_flat (b := false) h flat2
    have := ord_pair (g := g) (b := b) (n := n) (a := 1) (e := 0) (by omega)
    rwa [decide_eq_false (by omega)] at this
  refine .no (pair_false h ?_)
  simp only [oddsO, List.mem_cons, List.not_mem_nil, or_false] at hd
  rcases hd with rfl | rfl | rfl | rfl | rfl | rfl | rfl | rfl | rfl | rfl | rfl | rfl | rfl | rfl | rfl
  · exact .inl rfl
  · exact .inl rfl
  · exact .inr (.inr ⟨false, _, rfl, rfl, by simp, by simp [pairB]⟩)
  · exact .inr (.inr ⟨false, _, rfl, rfl, by simp, by simp [pairB]⟩)
  · exact absurd rfl h10
  · exact .inr (.inr ⟨false, _, rfl, rfl, by simp, by simp [pairB, unlikeB, isNum]⟩)
  · exact .inr (.inr ⟨false, _, rfl, rfl, by simp, by simp [pairB, unlikeB, isNum]⟩)
  · exact .inr (.inr ⟨false, _, rfl, rfl, by simp, by simp [pairB, unlikeB, isNum]⟩)
  · exact .inr (.inr ⟨false, _, rfl, rfl, by simp, by simp [pairB, unlikeB, isNum]⟩)
  · exact .inr (.inr ⟨false, _, rfl, rfl, by simp, by simp [pairB, unlikeB, isNum]⟩)
  · exact .inr (.inr ⟨false, _, rfl, rfl, by simp, by simp [pairB]⟩)
  · exact .inl rfl
  · exact .inr (.inl ⟨_, _, rfl, hq⟩)
  · exact .inr (.inr ⟨false, _, rfl, rfl, by simp, by simp [pairB, unlikeB, isNum]⟩)
  · exact .inr (.inr ⟨true, _, rfl, rfl, by simp, by simp [pairB, unlikeB, isNum]⟩)
theorem rowL_true (n3 : 3 ≤ n) (hd : d ∈ rowL) : RowIs g n d true := by
  simp only [rowL, List.mem_cons, List.not_mem_nil, or_false] at hd
  rcases hd with rfl | rfl | rfl
  · exact fun P hP => uq_k (b := true) (row := [0]) rfl ⟨by simp, fun z hz => by simp at hz; omega⟩ (by simp) hP
  · exact fun P hP => uq_k (b := true) (row := []) rfl ⟨by simp, fun z hz => by simp at hz⟩ (by simp) hP
  · exact fun P hP => uq_k (b := false) (row := [1, 0]) rfl ⟨by simp, fun z hz => by simp at hz; omega⟩ (by simp) hP
theorem tb2_k (s : St g r r0 c) (h4 : nv y4 = true) (h5 : nv y5 = true) (h6 : nv y6 = true) (h8 : nv y8 = true) (h9 : nv y9 = true) (hp : nv PL = true) (hr : nv RL = true) :
    Ok (tb_2 ⟨[.val (.box r), .val (.int n), PL, RL, y4, y5, y6, y7, y8, y9], g⟩) fun fl S => fl = .nx ∧ ∃ (y7 y8 : Slot) (g' : G), S = ⟨[.val (.box r), .val (.int n), PL, RL, y4, y5, y6, y7, y8, y9], g'⟩ ∧ nv y7 = true ∧ nv y8 = true ∧ St g' r r0 c := by
  have hsl := sizeLine_eq
  unfold tb_2
  repeat ac_rfl
  refine ok_forM (fun i S => ∃ (y7 y8 : Slot) (g' : G), S = ⟨[.val (.box r), .val (.int n), PL, RL, y4, y5, y6, y7, y8, y9], g'⟩ ∧ (1 ≤ i → nv y7 = true) ∧ nv y8 = true ∧ St g' r r0 c) (fun _ _ _ _ => rfl) ⟨y7, y8, g, rfl, fun k => absurd k (by omega), h8, s⟩ ?_ ?_
  · rintro i d _ hd ⟨z7, z8, g1, rfl, _, k8, s1⟩
    refine ⟨_, asg_nm, ?_⟩
    have hd : ([.glo "of_order", .glo "of_leaps"] : List D)[i]? = some d := hd
    obtain ⟨nm, f, rfl, W⟩ : ∃ nm f, d = .glo nm ∧ Thg nm f := by
      have hm := List.mem_of_getElem? hd
      simp only [List.mem_cons, List.not_mem_nil, or_false] at hm
      rcases hm with rfl | rfl
      · exact ⟨_, _, rfl, thg_o⟩
      · exact ⟨_, _, rfl, thg_l⟩
    repeat ac_rfl
    have c1 : (g1.add (.dK [])).cs g1.nx = some (.dK []) := by rw [add_cs, if_pos rfl]
    have s2 : St (g1.add (.dK [])) r r0 c := s1.add
    refine (ok_forM (Q := fun fl S => fl = Fl.nx ∧ ∃ y, S = ⟨[.val (.box r), .val (.int n), PL, RL, y4, y5, y6, .val (.glo nm), y, y9], g1.add (.dK [])⟩ ∧ nv y = true) (fun i S => ∃ y, S = ⟨[.val (.box r), .val (.int n), PL, RL, y4, y5, y6, .val (.glo nm), y, y9], g1.add (.dK [])⟩ ∧ nv y = true) (fun _ _ _ _ => rfl) ⟨z8, rfl, k8⟩ ?_ ?_).imp ?_
    · rintro i d _ hd ⟨y, rfl, hy⟩
      refine ⟨_, asg_nm, ?_⟩
      have hd : d ∈ oddP g1.nx := List.mem_of_getElem? hd
      repeat ac_rfl
      refine met_V (nm := nm) (f := f) (C := "BadMany") (fs := [("many", d)]) rfl W.l (by decide) rfl (noOwns_nv (by simp [nv_val, h4, h5, h6, h9, hp, hr])) ?_
      repeat ac_rfl
      refine ⟨W.w (oddP_num c1 hd), ?_⟩
      repeat ac_rfl
      have hsm : SameR (g1.add (.dK [])) 4 (.tup [.str "many", d]) (.tup [.str "many", d]) := same_two (by decide +kernel) (oddP_same c1 hd)
      refine same_k hsm (by decide) fun _ => ?_
      repeat ac_rfl
      exact ⟨_, rfl, rfl⟩
    · rintro _ ⟨y, rfl, hy⟩
      exact ⟨rfl, y, rfl, hy⟩
    · rintro _ _ ⟨rfl, y, rfl, hy⟩
      exact ⟨_, y, _, rfl, fun _ => rfl, hy, s2⟩
  · rintro _ ⟨z7, z8, g1, rfl, k7, k8, s1⟩
    exact ⟨rfl, z7, z8, g1, rfl, k7 (show (1 : Nat) ≤ 2 by decide), k8, s1⟩
theorem tb3_k (s : St g r r0 c) :
    Ok (tb_3 ⟨[.val (.box r), .val (.int n), PL, RL, y4, y5, y6, y7, y8, y9], g⟩) fun fl S => fl = .nx ∧ ∃ (q : Nat) (g' : G) (kvs : List (Key × D)), S = ⟨[.val (.box r), .val (.int n), PL, RL, .val (.lst ((oddsO n q).take 13)), y5, y6, y7, y8, y9], g'⟩ ∧ g'.cs q = some (.dK kvs) ∧ q < g'.nx ∧ q ≠ r ∧ q ≠ r0 ∧ St g' r r0 c := by
  have hsl := sizeLine_eq
  unfold tb_3
  repeat ac_rfl
  refine ⟨rfl, g.nx, g.add (.dK (mergeDK [] [(.inl 0, .int 0), (.inl 1, .int 1)])), _, rfl, by rw [add_cs, if_pos rfl], by rw [add_nx]; omega, fun e => ?_, fun e => ?_, s.add⟩
  · have h := s.l1
    omega
  · have h := s.l2
    omega
theorem tb4_k (n3 : 3 ≤ n) (s : St g r r0 c) (hc : c + 10000 ≤ 100000000000000) (hq : g.cs q = some (.dK kvs)) (hu : q < g.nx) (h1 : q ≠ r) (h2 : q ≠ r0) (h5 : nv y5 = true) (h6 : nv y6 = true) (h7 : nv y7 = true) (h8 : nv y8 = true) (h9 : nv y9 = true) (hr : nv RL = true) :
    Ok (tb_4 ⟨[.val (.box r), .val (.int n), .val (.lst (pairL n)), RL, .val (.lst ((oddsO n q).take 13)), y5, y6, y7, y8, y9], g⟩) fun fl S => fl = .nx ∧ ∃ (y5 y8 y9 : Slot) (g' : G), S = ⟨[.val (.box r), .val (.int n), .val (.lst (pairL n)), RL, .val (.lst ((oddsO n q).take 13)), y5, y6, y7, y8, y9], g'⟩ ∧ nv y5 = true ∧ nv y8 = true ∧ nv y9 = true ∧ St g' r r0 (c + 10000) := by
  have hsl := sizeLine_eq
  unfold tb_4
  repeat ac_rfl
  rotate_left
  · simp [oddsO]; omega
  refine ok_forM (fun i S => ∃ (y5 y8 y9 : Slot) (g' : G), S = ⟨[.val (.box r), .val (.int n), .val (.lst (pairL n)), RL, .val (.lst ((oddsO n q).take 13)), y5, y6, y7, y8, y9], g'⟩ ∧ nv y5 = true ∧ nv y8 = true ∧ nv y9 = true ∧ St g' r r0 (c + i * 100) ∧ Fr r r0 g g') (fun _ _ _ _ => rfl) ⟨y5, y8, y9, g, rfl, h5, h8, h9, by simpa using s, .refl g⟩ ?_ ?_
  · rintro i d _ hd ⟨z5, z8, z9, g1, rfl, k5, k8, k9, s1, f1⟩
    refine ⟨_, asg_nm, ?_⟩
    have hd : (oddsO n q)[i]? = some d := hd
    have hi : i < 15 := (List.getElem?_eq_some_iff.mp hd).1
    have hd := List.mem_of_getElem? hd
    repeat ac_rfl
    refine draw_k s1 (by omega) (by simp [pairL]) (by simp [pairL]) fun z _ g2 z0 z1 s2 f2 => ?_
    have z1 : z < 3 := z1
    obtain ⟨j, rfl⟩ := Int.eq_ofNat_of_zero_le z0
    have hj : j ≤ 2 := by omega
    have s2 : St g2 r r0 (c + i * 100 + 1) := s2
    have f2 : Fr r r0 g1 g2 := f2
    have e1 : cutD (pairL n) none (some ((j : Nat) : Int)) = (pairL n).take j := by rw [cut_to (by omega), Int.toNat_natCast]
    have e2 : cutD (pairL n) (some ((j : Nat) : Int)) none = (pairL n).drop j := by rw [cut_from (by omega), Int.toNat_natCast]
    have hpl : (pairL n).length = 2 := rfl
    have hrl : (rowL).length = 3 := rfl
    repeat ac_rfl
    rotate_left
    all_goals try (simp only [List.length_append, e1, e2, List.length_take, List.length_drop, List.length_cons, List.length_nil, hpl]; omega)
    dsimp only [st_mk, List.set_cons_succ, List.set_cons_zero]
    rw [e1, e2]
    have q2 : g2.cs q = some (.dK kvs) := (f1.trans f2).keep hq hu h1 h2
    have htl : ((pairL n).take j).length = j := by rw [List.length_take]; omega
    have hit : FbIs (OrdIs g2 n) g2 (.lst ((pairL n).take j ++ [d] ++ (pairL n).drop j ++ [.non])) (.int (j : Nat)) := by
      have := hit_of (g := g2) (A := OrdIs g2 n) (pre := (pairL n).take j) (x := d) (post := (pairL n).drop j ++ [.non]) (k := 1) (t := .lst ((pairL n).take j ++ [d] ++ (pairL n).drop j ++ [.non])) (by rw [List.append_assoc ((pairL n).take j ++ [d])]; exact .at1 _ _) (fun i y t' hy ⟨k', hl⟩ => pairL_true n3 (List.mem_of_mem_take (List.mem_of_getElem? hy)) hl) (fun t' ⟨k', hl⟩ => oddO_false n3 hl hd q2)
      rw [htl] at this; exact this
    refine met_M (f := m_of_order) (C := "BadPairs") (fs := [("index", .int (j : Nat))]) (by decide) rfl (noOwns_nv (by simp [nv_val, h6, h7, hr])) ?_
    repeat ac_rfl
    refine ⟨ord_pairs (by omega) hit, ?_⟩
    repeat ac_rfl
    have hsm : SameR g2 3 (.tup [.str "pairs", .int (j : Nat)]) (.tup [.str "pairs", .int (j : Nat)]) := same_two (by decide +kernel) (.int _ _)
    refine same_k hsm (by decide) fun _ => ?_
    repeat ac_rfl
    exact ⟨_, _, _, g2, rfl, rfl, rfl, rfl, s2.mono (by simp; omega), f1.trans f2⟩
  · rintro _ ⟨z5, z8, z9, g1, rfl, k5, k8, k9, s1, f1⟩
    exact ⟨rfl, z5, z8, z9, g1, rfl, k5, k8, k9, s1.mono (by simp; omega)⟩
end
end Lw
end

section
namespace Lw
open PySem L2 Mm
/-! Rkj: k39: rows refused; orders and rows. -/
section
variable {g : G} {q r r0 k : Nat} {d t : D} {n c : Int} {y4 y5 y6 y7 y8 y9 PL RL : Slot} {kvs : List (Key × D)}
theorem row_false (h : NoLot g n d) : RowIs g n d false := fun P hP => h.k P hP
theorem tb5_k (n3 : 3 ≤ n) (s : St g r r0 c) (hc : c + 10000 ≤ 100000000000000) (h4 : nv y4 = true) (h5 : nv y5 = true) (h6 : nv y6 = true) (h7 : nv y7 = true) (h8 : nv y8 = true) (h9 : nv y9 = true) (hp : nv PL = true) :
    Ok (tb_5 ⟨[.val (.box r), .val (.int n), PL, .val (.lst rowL), y4, y5, y6, y7, y8, y9], g⟩) fun fl S => fl = .nx ∧ ∃ (y5 y8 y9 : Slot) (g' : G), S = ⟨[.val (.box r), .val (.int n), PL, .val (.lst rowL), y4, y5, y6, y7, y8, y9], g'⟩ ∧ nv y5 = true ∧ nv y8 = true ∧ nv y9 = true ∧ St g' r r0 (c + 10000) := by
  have hsl := sizeLine_eq
  unfold tb_5
  repeat ac_rfl
  have c0 : (g.add (.dK [])).cs g.nx = some (.dK []) := by rw [add_cs, if_pos rfl]
  have u0 : g.nx < (g.add (.dK [])).nx := by rw [add_nx]; omega
  have m1 := s.l1
  have m2 := s.l2
  have s0 : St (g.add (.dK [])) r r0 c := s.add
  refine ok_forM (fun i S => ∃ (y5 y8 y9 : Slot) (g' : G), S = ⟨[.val (.box r), .val (.int n), PL, .val (.lst rowL), y4, y5, y6, y7, y8, y9], g'⟩ ∧ nv y5 = true ∧ nv y8 = true ∧ nv y9 = true ∧ St g' r r0 (c + i * 100) ∧ Fr r r0 (g.add (.dK [])) g') (fun _ _ _ _ => rfl) ⟨y5, y8, y9, _, rfl, h5, h8, h9, by simpa using s0, .refl _⟩ ?_ ?_
  · rintro i d _ hd ⟨z5, z8, z9, g1, rfl, k5, k8, k9, s1, f1⟩
    refine ⟨_, asg_nm, ?_⟩
    have hd : (oddB n g.nx)[i]? = some d := hd
    have hi : i < 13 := (List.getElem?_eq_some_iff.mp hd).1
    have hd := List.mem_of_getElem? hd
    repeat ac_rfl
    refine draw_k s1 (by omega) (by simp [rowL]) (by simp [rowL]) fun z _ g2 z0 z1 s2 f2 => ?_
    have z1 : z < 4 := z1
    obtain ⟨j, rfl⟩ := Int.eq_ofNat_of_zero_le z0
    have hj : j ≤ 3 := by omega
    have s2 : St g2 r r0 (c + i * 100 + 1) := s2
    have f2 : Fr r r0 g1 g2 := f2
    have e1 : cutD rowL none (some ((j : Nat) : Int)) = rowL.take j := by rw [cut_to (by omega), Int.toNat_natCast]
    have e2 : cutD rowL (some ((j : Nat) : Int)) none = rowL.drop j := by rw [cut_from (by omega), Int.toNat_natCast]
    have hrl : (rowL).length = 3 := rfl
    repeat ac_rfl
    rotate_left
    all_goals try (simp only [List.length_append, e1, e2, List.length_take, List.length_drop, List.length_cons, List.length_nil, hrl]; omega)
    dsimp only [st_mk, List.set_cons_succ, List.set_cons_zero]
    rw [e1, e2]
    have q2 : g2.cs g.nx = some (.dK []) := (f1.trans f2).keep c0 u0 (by omega) (by omega)
    have htl : (rowL.take j).length = j := by rw [List.length_take]; omega
    have hit : FbIs (RowIs g2 n) g2 (.lst (rowL.take j ++ [d] ++ rowL.drop j ++ [.non])) (.int (j : Nat)) := by
      refine .hit j true _ rfl (fun m y hm hy => ?_) ⟨d, ?_, row_false (oddB_no q2 hd)⟩
      · rw [List.append_assoc, List.append_assoc, List.getElem?_append_left (by omega)] at hy
        exact rowL_true n3 (List.mem_of_mem_take (List.mem_of_getElem? hy))
      · rw [List.append_assoc, List.append_assoc, List.getElem?_append_right (by omega), htl]
        simp
    refine met_K (f := m_of_leaps) (C := "BadRows") (fs := [("index", .int (j : Nat))]) (by decide) rfl (noOwns_nv (by simp [nv_val, h4, h6, h7, hp])) ?_
    repeat ac_rfl
    refine ⟨leap_rows (by omega) hit, ?_⟩
    repeat ac_rfl
    have hsm : SameR g2 3 (.tup [.str "rows", .int (j : Nat)]) (.tup [.str "rows", .int (j : Nat)]) := same_two (by decide +kernel) (.int _ _)
    refine same_k hsm (by decide) fun _ => ?_
    repeat ac_rfl
    exact ⟨_, _, _, g2, rfl, rfl, rfl, rfl, s2.mono (by simp; omega), f1.trans f2⟩
  · rintro _ ⟨z5, z8, z9, g1, rfl, k5, k8, k9, s1, f1⟩
    exact ⟨rfl, z5, z8, z9, g1, rfl, k5, k8, k9, s1.mono (by simp)⟩
theorem tb6_k (n0 : 0 ≤ n) (s : St g r r0 c) (h4 : nv y4 = true) (h5 : nv y5 = true) (h6 : nv y6 = true) (h7 : nv y7 = true) (h8 : nv y8 = true) (h9 : nv y9 = true) (hp : nv PL = true) (hr : nv RL = true) :
    Ok (tb_6 ⟨[.val (.box r), .val (.int n), PL, RL, y4, y5, y6, y7, y8, y9], g⟩) fun fl S => fl = .nx ∧ ∃ (y6 y8 : Slot) (g' : G), S = ⟨[.val (.box r), .val (.int n), PL, RL, y4, y5, y6, y7, y8, y9], g'⟩ ∧ St g' r r0 c := by
  have hsl := sizeLine_eq
  unfold tb_6
  repeat ac_rfl
  have c0 : (g.add (.dK [])).cs g.nx = some (.dK []) := by rw [add_cs, if_pos rfl]
  have u0 : g.nx < (g.add (.dK [])).nx := by rw [add_nx]; omega
  have s0 : St (g.add (.dK [])) r r0 c := s.add
  refine ok_forM (fun i S => ∃ (y6 y8 : Slot) (g' : G), S = ⟨[.val (.box r), .val (.int n), PL, RL, y4, y5, y6, y7, y8, y9], g'⟩ ∧ nv y6 = true ∧ nv y8 = true ∧ St g' r r0 c ∧ g'.cs g.nx = some (.dK []) ∧ g.nx < g'.nx) (fun _ _ _ _ => rfl) ⟨y6, y8, _, rfl, h6, h8, s0, c0, u0⟩ ?_ ?_
  · rintro i d _ hd ⟨z6, z8, g1, rfl, k6, k8, s1, c1, u1⟩
    refine ⟨_, asg_nm, ?_⟩
    have hd : d ∈ oddR g.nx := List.mem_of_getElem? hd
    repeat ac_rfl
    refine met_K (f := m_of_order) (C := "BadPairs") (fs := [("index", .int 0)]) (by decide) rfl (noOwns_nv (by simp [nv_val, h4, h5, k6, h7, h9, hp, hr])) ?_
    repeat ac_rfl
    refine ⟨ord_pairs n0 (.no (oddR_no c1 hd)), ?_⟩
    repeat ac_rfl
    have c2 : (g1.add (.lst [.tup [.str "pairs", .int 0]])).cs g1.nx = some (.lst [.tup [.str "pairs", .int 0]]) := by rw [add_cs, if_pos rfl]
    have s2 : St (g1.add (.lst [.tup [.str "pairs", .int 0]])) r r0 c := s1.add
    have c3 : (g1.add (.lst [.tup [.str "pairs", .int 0]])).cs g.nx = some (.dK []) := by rw [add_cs, if_neg (by omega)]; exact c1
    have u3 : g.nx < (g1.add (.lst [.tup [.str "pairs", .int 0]])).nx := by rw [add_nx]; omega
    have m1 := s1.l1
    have m2 := s1.l2
    refine onL_of c2 ?_
    repeat ac_rfl
    refine met_M (f := m_of_leaps) (C := "BadRows") (fs := [("index", .int 0)]) (by decide) rfl (noOwns_nv (by simp [nv_val, h4, h5, h7, h9, hp, hr])) ?_
    repeat ac_rfl
    refine ⟨leap_rows n0 (.no (oddR_no c3 hd)), ?_⟩
    repeat ac_rfl
    show Ok (m_l_same 60 [.box g1.nx, .lst [.tup [.str "pairs", .int 0], .tup [.str "rows", .int 0]]] ⟨[], (g1.add (.lst [.tup [.str "pairs", .int 0]])).put g1.nx (.lst [.tup [.str "pairs", .int 0], .tup [.str "rows", .int 0]])⟩) _
    have c4 : ((g1.add (.lst [.tup [.str "pairs", .int 0]])).put g1.nx (.lst [.tup [.str "pairs", .int 0], .tup [.str "rows", .int 0]])).cs g1.nx = some (.lst [.tup [.str "pairs", .int 0], .tup [.str "rows", .int 0]]) := by rw [put_cs, if_pos rfl]
    have c5 : ((g1.add (.lst [.tup [.str "pairs", .int 0]])).put g1.nx (.lst [.tup [.str "pairs", .int 0], .tup [.str "rows", .int 0]])).cs g.nx = some (.dK []) := by rw [put_cs, if_neg (by omega)]; exact c3
    have s4 : St ((g1.add (.lst [.tup [.str "pairs", .int 0]])).put g1.nx (.lst [.tup [.str "pairs", .int 0], .tup [.str "rows", .int 0]])) r r0 c := s2.put (by omega) (by omega)
    have u4 : g.nx < ((g1.add (.lst [.tup [.str "pairs", .int 0]])).put g1.nx (.lst [.tup [.str "pairs", .int 0], .tup [.str "rows", .int 0]])).nx := u3
    generalize ((g1.add (.lst [.tup [.str "pairs", .int 0]])).put g1.nx (.lst [.tup [.str "pairs", .int 0], .tup [.str "rows", .int 0]])) = g4 at c4 c5 s4 u4 ⊢
    have hsm : SameR g4 5 (.box g1.nx) (.lst [.tup [.str "pairs", .int 0], .tup [.str "rows", .int 0]]) := .all (vwD_box c4) rfl (.cons (same_two (by decide +kernel) (.int _ _)) (.cons (same_two (by decide +kernel) (.int _ _)) .nil))
    refine same_k hsm (by decide) fun _ => ?_
    repeat ac_rfl
    exact ⟨_, _, g4, rfl, rfl, rfl, s4, c5, u4⟩
  · rintro _ ⟨y6, y8, g', rfl, k6, k8, s1, _⟩
    exact ⟨rfl, y6, y8, _, rfl, s1⟩
theorem things_right_k {Q : D → Sg → Prop} (n3 : 3 ≤ n) (hn : n ≤ 100) (s : St g r r0 c) (hc : c + 100000 ≤ 100000000000000) (q : ∀ sl g', St g' r r0 (c + 100000) → Q (.bl true) ⟨sl, g'⟩) : Ok (m_l_things_right [.box r, .int n] ⟨[], g⟩) Q := by
  have hsl := sizeLine_eq
  unfold m_l_things_right
  rw [ok_runF, tb_eq]
  have esl : slots 10 [.box r, .int n] = [.val (.box r), .val (.int n), .emp, .emp, .emp, .emp, .emp, .emp, .emp, .emp] := rfl
  rw [esl, ok_seqM]
  refine Ok.imp (Q := fun fl S => fl = .nx ∧ S = ⟨[.val (.box r), .val (.int n), .val (.lst (pairL n)), .val (.lst rowL), .emp, .emp, .emp, .emp, .emp, .emp], g⟩) ?_ ?_
  · unfold tb_1
    repeat ac_rfl
    exact ⟨rfl, rfl, rfl⟩
  rintro _ _ ⟨rfl, rfl⟩
  rw [seqQ_nx, ok_seqM]
  refine (tb2_k s rfl rfl rfl rfl rfl rfl rfl).imp ?_
  rintro _ _ ⟨rfl, y7, y8, g1, rfl, k7, k8, s1⟩
  rw [seqQ_nx, ok_seqM]
  refine (tb3_k s1).imp ?_
  rintro _ _ ⟨rfl, q1, g2, kvs, rfl, hq, hu, q2, q3, s2⟩
  rw [seqQ_nx, ok_seqM]
  refine (tb4_k n3 s2 (by omega) hq hu q2 q3 rfl rfl k7 k8 rfl rfl).imp ?_
  rintro _ _ ⟨rfl, z5, z8, z9, g3, rfl, j5, j8, j9, s3⟩
  rw [seqQ_nx, ok_seqM]
  refine (tb5_k n3 s3 (by omega) rfl j5 rfl k7 j8 j9 rfl).imp ?_
  rintro _ _ ⟨rfl, w5, w8, w9, g4, rfl, l5, l8, l9, s4⟩
  rw [seqQ_nx, ok_seqM]
  refine (tb6_k (by omega) s4 rfl l5 rfl k7 l8 l9 rfl rfl).imp ?_
  rintro _ _ ⟨rfl, v6, v8, g5, rfl, s5⟩
  rw [seqQ_nx]
  unfold tb_7
  repeat ac_rfl
  exact q _ _ (s5.mono (by omega))
end
end Lw
end

section
namespace Lw
open PySem L2 Mm
/-! Rkk: k39: the law. -/
theorem cut2 {x y : D} {rest : List D} : cutD (x :: y :: rest) none (some 2) = [x, y] := by rw [cut_to (by decide)]; rfl
theorem cut23 {x y z : D} {rest : List D} : cutD (x :: y :: z :: rest) (some 2) (some 3) = [z] := by
  unfold cutD
  rw [show (2 : Int) = ((2 : Nat) : Int) from rfl, show (3 : Int) = ((3 : Nat) : Int) from rfl, HT.sIx_nat, HT.sIx_nat]
  have e1 : min 2 (x :: y :: z :: rest).length = 2 := by simp
  have e2 : min 3 (x :: y :: z :: rest).length = 3 := by simp
  rw [e1, e2]
  rfl
theorem rng_three {ys : List Int} {n : Int} (n3 : 3 ≤ n) (h : ys.Perm (rngI n.toNat)) : ∃ a b e rest, ys = a :: b :: e :: rest ∧ Three n a b e := by
  have hl : ys.length = n.toNat := by rw [h.length_eq, rngI_len]
  have hn : ys.Nodup := h.nodup_iff.mpr rngI_nd
  have hb : ∀ z ∈ ys, 0 ≤ z ∧ z < n := fun z hz => by
    have := rngI_mem.mp (h.mem_iff.mp hz)
    omega
  match ys, hl, hn, hb with
  | [], hl, _, _ => simp at hl; omega
  | [_], hl, _, _ => simp at hl; omega
  | [_, _], hl, _, _ => simp at hl; omega
  | a :: b :: e :: rest, _, hn, hb =>
    refine ⟨a, b, e, rest, rfl, hb a (by simp), hb b (by simp), hb e (by simp), ?_, ?_, ?_⟩
    · intro z; subst z; simp at hn
    · intro z; subst z; simp at hn
    · intro z; subst z; simp at hn
theorem mix_frz {sl : List Slot} {g : G} {r r0 : Nat} {c : Int} {xs : List Int} {Q : D → Sg → Prop} (s : St g r r0 c) (hl : xs.length ≤ 100000) (hc : c + xs.length ≤ 100000000000000)
    (q : ∀ ys g', ys.Perm xs → St g' r r0 (c + xs.length) → Fr r r0 g g' → Q (dInts ys) ⟨sl, g'⟩) : Ok (m_l_mixed [.box r, dInts xs] ⟨[], g⟩) (fun d S2 => Ok (frzD d ⟨sl, S2.g⟩) Q) := by
  have hsl := sizeLine_eq
  have h1 : (xs.map D.int).length < sizeLine := by rw [List.length_map]; omega
  have h2 : c + (xs.map D.int).length ≤ 100000000000000 := by rw [List.length_map]; exact hc
  refine (mixed_ok s (vwD_lst (xs := xs.map D.int)) h1 h2).imp ?_
  rintro d ⟨sl2, g2⟩ ⟨_, s2, f2, ys, p, hp, rfl, p1, p2, hq⟩
  rw [List.length_map] at s2
  obtain ⟨zs, rfl, hz⟩ := perm_map hp
  rw [ok_frzD hq]
  exact q zs _ hz (s2.del (fun e => by have := s.l1; omega) (fun e => by have := s.l2; omega)) (f2.del p1)
def wd (k : Nat) : D := .str (match k with | 0 => "x" | 1 => "y" | 2 => "z" | _ => "w")
/-- the things that are held, and what is found -/
structure W4 (g : G) (b q : Nat) (F : List D) : Prop where
  w0 : g.cs (b + 0) = some (.lst [.str "x"])
  w1 : g.cs (b + 1) = some (.lst [.str "y"])
  w2 : g.cs (b + 2) = some (.lst [.str "z"])
  w3 : g.cs (b + 3) = some (.lst [.str "w"])
  f : g.cs q = some (.lst F)
  hq : b + 4 ≤ q
  u : q < g.nx
theorem W4.put {g : G} {b q : Nat} {F F' : List D} (h : W4 g b q F) : W4 (g.put q (.lst F')) b q F' := by
  have := h.hq
  exact ⟨by rw [put_cs, if_neg (by omega)]; exact h.w0, by rw [put_cs, if_neg (by omega)]; exact h.w1, by rw [put_cs, if_neg (by omega)]; exact h.w2, by rw [put_cs, if_neg (by omega)]; exact h.w3, by rw [put_cs, if_pos rfl], h.hq, h.u⟩
/-- the first i told late -/
structure Held (g : G) (b q : Nat) (F : List D) (i : Nat) : Prop where
  w : ∀ k, k < 4 → g.cs (b + k) = some (.lst (if k < i then [wd k, .str "late"] else [wd k]))
  f : g.cs q = some (.lst F)
  hq : b + 4 ≤ q
theorem W4.held {g : G} {b q : Nat} {F : List D} (h : W4 g b q F) : Held g b q F 0 := ⟨fun k hk => by
  rw [if_neg (by omega)]
  match k, hk with
  | 0, _ => exact h.w0
  | 1, _ => exact h.w1
  | 2, _ => exact h.w2
  | 3, _ => exact h.w3, h.f, h.hq⟩
theorem Held.put {g : G} {b q i : Nat} {F : List D} (h : Held g b q F i) (hi : i < 4) : Held (g.put (b + i) (.lst [wd i, .str "late"])) b q F (i + 1) := ⟨fun k hk => by
  rw [put_cs]
  by_cases e : k = i
  · subst e
    rw [if_pos rfl, if_pos (by omega)]
  · rw [if_neg (by omega), h.w k hk]
    by_cases e2 : k < i
    · rw [if_pos e2, if_pos (by omega)]
    · rw [if_neg e2, if_neg (by omega)], by
  have := h.hq
  rw [put_cs, if_neg (by omega)]
  exact h.f, h.hq⟩
theorem Held.same {g : G} {b q : Nat} {F : List D} (h : Held g b q F 4) {k : Nat} (hk : k < 4) : SameR g 2 (.box (b + k)) (.box (b + k)) := by
  have e := h.w k hk
  rw [if_pos hk] at e
  exact .all (vwD_box e) (vwD_box e) (.cons (.str _ (by match k, hk with | 0, _ => decide +kernel | 1, _ => decide +kernel | 2, _ => decide +kernel | 3, _ => decide +kernel)) (.cons (.str _ (by decide +kernel)) .nil))
theorem box_num {g : G} {q : Nat} {xs : List D} (h : g.cs q = some (.lst xs)) : NumIs g (.box q) false := num_odd (odd_of (t := "list") (fun _ => by simp [tyD, h]) (.inl (by decide)))
theorem box_lot {g : G} {q : Nat} {x : Str} {n : Int} (h : g.cs q = some (.lst [.str x])) : NoLot g n (.box q) := .inr ⟨true, [.str x], vwD_box h, fun y hy => by rw [List.mem_singleton.mp hy]; exact io_str, by simp, by simp [unlikeB, isNum]⟩
theorem none_all {A : D → Bool → Prop} {g : G} : FbIs A g (.lst []) .non := .all true [] rfl fun x hx => by simp at hx
def LwI (ns : List Int) (r r0 : Nat) (i : Nat) (S : Sg) : Prop := ∃ (y2 y3 y4 y5 : Slot) (g : G), S = ⟨[.val (.scr ns), .val (.box r), y2, y3, y4, y5, .emp, .emp, .emp, .emp], g⟩ ∧ nv y2 = true ∧ nv y3 = true ∧ nv y4 = true ∧ nv y5 = true ∧ St g r r0 (i * 1000000)
theorem law_ok : LawOk m_law := by
  intro ns _ _
  have hsl := sizeLine_eq
  have h : Ok (m_law [.scr ns] ⟨[], g0⟩) fun d _ => d = .bl true := by
    unfold m_law
    rw [ok_runF]
    unfold b_law
    have e : slots 10 [.scr ns] = [.val (.scr ns), .emp, .emp, .emp, .emp, .emp, .emp, .emp, .emp, .emp] := rfl
    rw [e]
    repeat ac_rfl
    refine stream_ok.imp ?_
    rintro _ ⟨_, g1⟩ ⟨_, s1, rfl, _⟩
    have s1 : St g1 (g0.nx + 1) g0.nx 0 := s1
    generalize g0.nx + 1 = r at s1
    generalize g0.nx = r0 at s1
    repeat ac_rfl
    refine k_rng1 ⟨by omega, by omega⟩ ?_
    refine Ok.imp (Q := fun f S => f = Fl.nx ∧ LwI ns r r0 2 S) ?_ ?_
    · refine ok_forM (LwI ns r r0) (fun _ _ _ _ => trivial) ⟨_, _, _, _, _, rfl, rfl, rfl, rfl, rfl, by simpa using s1⟩ ?_ (fun _ h => ⟨rfl, h⟩)
      rintro i d _ hd ⟨y2, y3, y4, y5, g2, rfl, _, _, _, _, s2⟩
      obtain ⟨hi, rfl⟩ := rngD_get hd
      have hi : i < 2 := hi
      refine ⟨_, asg_nm, ?_⟩
      rw [ok_seqM, ok_setM]
      repeat ac_rfl
      refine draw_k s2 (by omega) (by decide) (by decide) fun z _ g3 z0 z1 s3 f3 => ?_
      have s3 : St g3 r r0 (i * 1000000 + 1) := s3
      repeat ac_rfl
      refine ok_rngC1 (by omega) (by omega) ?_
      rw [ok_frzC, rngD_I]
      repeat ac_rfl
      have hrl : (rngI (3 + z).toNat).length = (3 + z).toNat := rngI_len
      refine mix_frz (xs := rngI (3 + z).toNat) s3 (by omega) (by omega) fun ys g4 hp s4 f4 => ?_
      have s4 : St g4 r r0 (i * 1000000 + 1 + (rngI (3 + z).toNat).length) := s4
      have s4 : St g4 r r0 (i * 1000000 + 20) := s4.mono (by omega)
      obtain ⟨a, b, e, rest, rfl, h3⟩ := rng_three (by omega) hp
      have hyl : (a :: b :: e :: rest).length = (3 + z).toNat := by rw [hp.length_eq, rngI_len]
      have hyn : (a :: b :: e :: rest).Nodup := hp.nodup_iff.mpr rngI_nd
      have hyb : ∀ w ∈ (a :: b :: e :: rest), 0 ≤ w ∧ w < 3 + z := fun w hw => by
        have := rngI_mem.mp (hp.mem_iff.mp hw)
        omega
      generalize hm : 3 + z = n at *
      repeat ac_rfl
      dsimp only [st_mk, List.set_cons_succ, List.set_cons_zero]
      refine ok_lc1 (by simp) rfl ?_
      repeat ac_rfl
      refine draw_k (many := 5) s4 (by omega) (by omega) (by omega) fun w _ g5 w0 w1 s5 f5 => ?_
      have s5 : St g5 r r0 (i * 1000000 + 30) := St.mono s5 (by omega)
      repeat ac_rfl
      refine k_rng1 ⟨by omega, by omega⟩ ?_
      refine ⟨rfl, fun m acc g' => ∃ ps : List (Int × Int), acc = ps.map pD ∧ ps.length = m ∧ (∀ p ∈ ps, 0 ≤ p.1 ∧ p.1 < n ∧ 0 ≤ p.2 ∧ p.2 < n ∧ p.1 ≠ p.2) ∧ St g' r r0 (i * 1000000 + 30 + m * 20), fun _ _ _ _ _ => trivial, ⟨[], rfl, rfl, by simp, s5.mono (by omega)⟩, ?_, ?_⟩
      · rintro m d acc g6 hd ⟨ps, rfl, hpl, hps, s6⟩
        have hd : (rngD 0 w.toNat)[m]? = some d := hd
        have hm4 : m < 5 := by
          have := (List.getElem?_eq_some_iff.mp hd).1
          rw [rngD_len] at this
          omega
        refine ok_ret.mpr ⟨rfl, ?_⟩
        rw [if_pos rfl]
        repeat ac_rfl
        refine mix_frz (xs := a :: b :: e :: rest) s6 (by omega) (by omega) fun zs g7 hz s7 f7 => ?_
        have s7 : St g7 r r0 (i * 1000000 + 30 + m * 20 + 20) := St.mono s7 (by omega)
        obtain ⟨x, y, rest', rfl⟩ : ∃ x y rest', zs = x :: y :: rest' := by
          have := hz.length_eq
          match zs, this with
          | [], h => simp at h
          | [_], h => simp at h
          | x :: y :: rest', _ => exact ⟨x, y, rest', rfl⟩
        have hzn : (x :: y :: rest').Nodup := hz.nodup_iff.mpr hyn
        have hxy : x ≠ y := fun z => by subst z; simp at hzn
        have hx := hyb x (hz.mem_iff.mp (by simp))
        have hy := hyb y (hz.mem_iff.mp (by simp))
        have e1 : cutD ((x :: y :: rest').map D.int) none (some 2) = [.int x, .int y] := cut2
        repeat ac_rfl
        show Ok (tupleF (true, cutD ((x :: y :: rest').map D.int) none (some 2)) _) _
        rw [e1]
        repeat ac_rfl
        refine ⟨rfl, by simp; omega, ps ++ [(x, y)], by simp [pD], by simp [hpl], fun p hp => ?_, s7.mono (by simp; omega)⟩
        rcases List.mem_append.mp hp with hp | hp
        · exact hps p hp
        · rw [List.mem_singleton.mp hp]
          exact ⟨hx.1, hx.2, hy.1, hy.2, hxy⟩
      · rintro acc g6 ⟨ps, rfl, hpl, hps, s6⟩
        have hpl : ps.length = (rngD 0 w.toNat).length := hpl
        rw [rngD_len] at hpl
        have s6 : St g6 r r0 (i * 1000000 + 200) := St.mono s6 (by show _ + ((rngD 0 w.toNat).length : Int) * 20 ≤ _; rw [rngD_len]; omega)
        have hP : GoodP n ps := ⟨by omega, hps⟩
        have e1 : cutD ((a :: b :: e :: rest).map D.int) none (some 2) = [.int a, .int b] := cut2
        have e2 : cutD ((a :: b :: e :: rest).map D.int) (some 2) (some 3) = [.int e] := cut23
        repeat ac_rfl
        rw [e1, e2]
        refine webs_right_k (by omega) hP h3 s6 (by omega) fun _ g7 s7 => ?_
        repeat ac_rfl
        refine things_right_k (by omega) (by omega) s7 (by omega) fun _ g8 s8 => ?_
        repeat ac_rfl
        exact ⟨_, _, _, _, g8, rfl, rfl, rfl, rfl, rfl, s8.mono (by simp; omega)⟩
    · rintro _ _ ⟨rfl, y2, y3, y4, y5, g2, rfl, m2, m3, m4, m5, s2⟩
      repeat ac_rfl
      have w0 : ((((g2.add (.lst [.str "x"])).add (.lst [.str "y"])).add (.lst [.str "z"])).add (.lst [.str "w"])).cs (g2.nx + 0) = some (.lst [.str "x"]) := by
        rw [add_cs, if_neg (by simp only [add_nx]; omega), add_cs, if_neg (by simp only [add_nx]; omega), add_cs, if_neg (by simp only [add_nx]; omega), add_cs, if_pos (by rfl)]
      have w1 : ((((g2.add (.lst [.str "x"])).add (.lst [.str "y"])).add (.lst [.str "z"])).add (.lst [.str "w"])).cs (g2.nx + 1) = some (.lst [.str "y"]) := by
        rw [add_cs, if_neg (by simp only [add_nx]; omega), add_cs, if_neg (by simp only [add_nx]; omega), add_cs, if_pos (by rfl)]
      have w2 : ((((g2.add (.lst [.str "x"])).add (.lst [.str "y"])).add (.lst [.str "z"])).add (.lst [.str "w"])).cs (g2.nx + 2) = some (.lst [.str "z"]) := by
        rw [add_cs, if_neg (by simp only [add_nx]; omega), add_cs, if_pos (by rfl)]
      have w3 : ((((g2.add (.lst [.str "x"])).add (.lst [.str "y"])).add (.lst [.str "z"])).add (.lst [.str "w"])).cs (g2.nx + 3) = some (.lst [.str "w"]) := by
        rw [add_cs, if_pos (by rfl)]
      have hx4 : ((((g2.add (.lst [.str "x"])).add (.lst [.str "y"])).add (.lst [.str "z"])).add (.lst [.str "w"])).nx = g2.nx + 4 := rfl
      show Ok (metM _ _ _ _ _ ⟨[.val (.scr ns), .val (.box r), y2, y3, y4, y5, .emp, .emp, .val (.lst [.box (g2.nx + 0), .box (g2.nx + 1), .box (g2.nx + 2), .box (g2.nx + 3)]), .emp], (((g2.add (.lst [.str "x"])).add (.lst [.str "y"])).add (.lst [.str "z"])).add (.lst [.str "w"])⟩) _
      generalize (((g2.add (.lst [.str "x"])).add (.lst [.str "y"])).add (.lst [.str "z"])).add (.lst [.str "w"]) = g3 at w0 w1 w2 w3 hx4 ⊢
      generalize g2.nx = b at w0 w1 w2 w3 hx4 ⊢
      refine met_M (f := m_of_roads) (C := "BadPlaces") (fs := [("places", .box (b + 0))]) (by decide) rfl (noOwns_nv (by simp [nv_val, nv_emp, m2, m3, m4, m5])) ?_
      repeat ac_rfl
      refine ⟨ask_roads (web_places (box_num w0)), ?_⟩
      repeat ac_rfl
      have H : W4 (g3.add (.lst [.tup [.str "places", .box (b + 0)]])) b g3.nx [.tup [.str "places", .box (b + 0)]] := ⟨by rw [add_cs, if_neg (by omega)]; exact w0, by rw [add_cs, if_neg (by omega)]; exact w1, by rw [add_cs, if_neg (by omega)]; exact w2, by rw [add_cs, if_neg (by omega)]; exact w3, by rw [add_cs, if_pos rfl], by omega, by rw [add_nx]; omega⟩
      refine onL_of H.f ?_
      repeat ac_rfl
      refine met_M (f := m_of_places) (C := "BadBegins") (fs := [("begins", .box (b + 1))]) (by decide) rfl (noOwns_nv (by simp [nv_val, nv_emp, m2, m3, m4, m5])) ?_
      repeat ac_rfl
      refine ⟨ask_places (web_begins (by decide) none_all (box_lot H.w1)), ?_⟩
      repeat ac_rfl
      refine onL_of H.f ?_
      repeat ac_rfl
      have H := H.put (F' := [.tup [.str "places", .box (b + 0)], .tup [.str "begins", .box (b + 1)]])
      refine onL_of H.f ?_
      repeat ac_rfl
      refine met_M (f := m_of_roads) (C := "BadEnds") (fs := [("ends", .box (b + 2))]) (by decide) rfl (noOwns_nv (by simp [nv_val, nv_emp, m2, m3, m4, m5])) ?_
      repeat ac_rfl
      refine ⟨ask_roads (web_ends (by decide) none_all (fun P hP => uq_k (b := true) (row := []) rfl ⟨by simp, fun z hz => by simp at hz⟩ (by simp) hP) (box_lot H.w2)), ?_⟩
      repeat ac_rfl
      refine onL_of H.f ?_
      repeat ac_rfl
      have H := H.put (F' := [.tup [.str "places", .box (b + 0)], .tup [.str "begins", .box (b + 1)], .tup [.str "ends", .box (b + 2)]])
      refine onL_of H.f ?_
      repeat ac_rfl
      refine met_M (f := m_of_order) (C := "BadMany") (fs := [("many", .box (b + 3))]) (by decide) rfl (noOwns_nv (by simp [nv_val, nv_emp, m2, m3, m4, m5])) ?_
      repeat ac_rfl
      refine ⟨ord_many (box_num H.w3), ?_⟩
      repeat ac_rfl
      refine onL_of H.f ?_
      repeat ac_rfl
      have H := H.put (F' := [.tup [.str "places", .box (b + 0)], .tup [.str "begins", .box (b + 1)], .tup [.str "ends", .box (b + 2)], .tup [.str "many", .box (b + 3)]])
      refine Ok.imp (Q := fun fl S => fl = .nx ∧ ∃ (y7 : Slot) (g' : G), S = ⟨[.val (.scr ns), .val (.box r), y2, y3, y4, y5, .val (.box g3.nx), y7, .val (.lst [.box (b + 0), .box (b + 1), .box (b + 2), .box (b + 3)]), .emp], g'⟩ ∧ Held g' b g3.nx [.tup [.str "places", .box (b + 0)], .tup [.str "begins", .box (b + 1)], .tup [.str "ends", .box (b + 2)], .tup [.str "many", .box (b + 3)]] 4) ?_ ?_
      · refine ok_forM (fun i S => ∃ (y7 : Slot) (g' : G), S = ⟨[.val (.scr ns), .val (.box r), y2, y3, y4, y5, .val (.box g3.nx), y7, .val (.lst [.box (b + 0), .box (b + 1), .box (b + 2), .box (b + 3)]), .emp], g'⟩ ∧ Held g' b g3.nx [.tup [.str "places", .box (b + 0)], .tup [.str "begins", .box (b + 1)], .tup [.str "ends", .box (b + 2)], .tup [.str "many", .box (b + 3)]] i) (fun _ _ _ _ => rfl) ⟨_, _, rfl, H.held⟩ ?_ (fun _ h => ⟨rfl, h⟩)
        rintro i d _ hd ⟨y7, g4, rfl, hH⟩
        have hd : ([.box (b + 0), .box (b + 1), .box (b + 2), .box (b + 3)] : List D)[i]? = some d := hd
        have hi : i < 4 := (List.getElem?_eq_some_iff.mp hd).1
        have ed : d = .box (b + i) := by
          match i, hi, hd with
          | 0, _, hd => simpa using hd.symm
          | 1, _, hd => simpa using hd.symm
          | 2, _, hd => simpa using hd.symm
          | 3, _, hd => simpa using hd.symm
        subst ed
        have ci := hH.w i hi
        rw [if_neg (by omega)] at ci
        refine ⟨_, asg_nm, ?_⟩
        repeat ac_rfl
        exact ⟨_, _, rfl, hH.put hi⟩
      · rintro _ _ ⟨rfl, y7, g4, rfl, hH⟩
        repeat ac_rfl
        show Ok (m_l_same 60 [.box g3.nx, .lst [.tup [.str "places", .box (b + 0)], .tup [.str "begins", .box (b + 1)], .tup [.str "ends", .box (b + 2)], .tup [.str "many", .box (b + 3)]]] ⟨[], g4⟩) _
        have hsm : SameR g4 4 (.box g3.nx) (.lst [.tup [.str "places", .box (b + 0)], .tup [.str "begins", .box (b + 1)], .tup [.str "ends", .box (b + 2)], .tup [.str "many", .box (b + 3)]]) := .all (vwD_box hH.f) rfl (.cons (same_two (by decide +kernel) (hH.same (k := 0) (by omega))) (.cons (same_two (by decide +kernel) (hH.same (k := 1) (by omega))) (.cons (same_two (by decide +kernel) (hH.same (k := 2) (by omega))) (.cons (same_two (by decide +kernel) (hH.same (k := 3) (by omega))) .nil))))
        refine same_k hsm (by decide) fun _ => ?_
        repeat ac_rfl
  obtain ⟨d, S, e, h⟩ := h
  subst h
  exact ⟨S, e⟩
end Lw
end

open PySem PySem.W PyProof.Rows L2
set_option maxRecDepth 100000 in
set_option maxHeartbeats 0 in
theorem PySem.Challenge.cw_waysthatcross_k39_webs_and_orders_refuse_holds : PySem.Challenge.rw_waysthatcross_k39_webs_and_orders_refuse.Holds := by
  refine Lw.headTop ?_
  k_fill
  refine Mm.end_ofT (l := PySem.Challenge.rw_waysthatcross_k39_webs_and_orders_refuse) (k := 67) (x := "law") (y := "_law_script") (st := Lw.s_law) (f := Lw.m_law) rfl rfl rfl ⟨rfl, by decide, by decide⟩ (fun w h Y => PySem.W.km_in_of Y) (fun _ _ _ _ _ _ _ => rfl) (fun x hx => by have hx : x ∈ Lw.tabXs := hx; unfold Lw.tabXs at hx; simp only [List.mem_cons, List.not_mem_nil, or_false] at hx; rcases hx with rfl | rfl | rfl | rfl | rfl | rfl <;> rfl) ?D Lw.law_ok
  case D =>
    intro w mg h KX G
    refine' Lw.of_txt ?T
    refine' Lw.Txt.mk ?d_is_integer ?d_is_number ?d_is_list ?d_are_unlike ?d_is_pair ?d_first_bad ?d_check_web ?d_of_roads ?d_of_places ?d_of_order ?d_of_leaps ?d_l_stream ?d_l_draw ?d_l_mixed ?d_l_same ?d_l_loose ?d_l_met ?d_l_webs_right ?d_l_things_right ?d_law ?l_check_web ?l_of_order ?l_of_leaps ?l_l_webs_right ?l_l_things_right ?l_law ?tt ?x_BadPlaces ?x_BadRoads ?x_BadBegins ?x_BadEnds ?x_BadMany ?x_BadPairs ?x_BadRows ?xm_l_met ?n_abs ?n_all ?n_any ?n_bool ?n_dict ?n_enumerate ?n_int ?n_isinstance ?n_len ?n_list ?n_range ?n_tuple ?n_zip ?kit ?g_of_leaps ?g_of_order ?g_of_places ?g_of_roads
    case d_is_integer =>
      refine' Mm.defIn_mk KX G ?q0_a ?q0_l ?q0_c ?q0_k; (case q0_a => k_is); (case q0_l => k_is); (case q0_c => k_is); (case q0_k => k_is)
    case d_is_number =>
      refine' Mm.defIn_mk KX G ?q1_a ?q1_l ?q1_c ?q1_k; (case q1_a => k_is); (case q1_l => k_is); (case q1_c => k_is); (case q1_k => k_is)
    case d_is_list =>
      refine' Mm.defIn_mk KX G ?q2_a ?q2_l ?q2_c ?q2_k; (case q2_a => k_is); (case q2_l => k_is); (case q2_c => k_is); (case q2_k => k_is)
    case d_are_unlike =>
      refine' Mm.defIn_mk KX G ?q3_a ?q3_l ?q3_c ?q3_k; (case q3_a => k_is); (case q3_l => k_is); (case q3_c => k_is); (case q3_k => k_is)
    case d_is_pair =>
      refine' Mm.defIn_mk KX G ?q4_a ?q4_l ?q4_c ?q4_k; (case q4_a => k_is); (case q4_l => k_is); (case q4_c => k_is); (case q4_k => k_is)
    case d_first_bad =>
      refine' Mm.defIn_mk KX G ?q5_a ?q5_l ?q5_c ?q5_k; (case q5_a => k_is); (case q5_l => k_is); (case q5_c => k_is); (case q5_k => k_is)
    case d_check_web =>
      refine' Mm.defIn_mk KX G ?q6_a ?q6_l ?q6_c ?q6_k; (case q6_a => k_is); (case q6_l => k_is); (case q6_c => k_is); (case q6_k => k_is)
    case d_of_roads =>
      refine' Mm.defIn_mk KX G ?q7_a ?q7_l ?q7_c ?q7_k; (case q7_a => k_is); (case q7_l => k_is); (case q7_c => k_is); (case q7_k => k_is)
    case d_of_places =>
      refine' Mm.defIn_mk KX G ?q8_a ?q8_l ?q8_c ?q8_k; (case q8_a => k_is); (case q8_l => k_is); (case q8_c => k_is); (case q8_k => k_is)
    case d_of_order =>
      refine' Mm.defIn_mk KX G ?q9_a ?q9_l ?q9_c ?q9_k; (case q9_a => k_is); (case q9_l => k_is); (case q9_c => k_is); (case q9_k => k_is)
    case d_of_leaps =>
      refine' Mm.defIn_mk KX G ?q10_a ?q10_l ?q10_c ?q10_k; (case q10_a => k_is); (case q10_l => k_is); (case q10_c => k_is); (case q10_k => k_is)
    case d_l_stream =>
      refine' Mm.defIn_mk KX G ?q11_a ?q11_l ?q11_c ?q11_k; (case q11_a => k_is); (case q11_l => k_is); (case q11_c => k_is); (case q11_k => k_is)
    case d_l_draw =>
      refine' Mm.defIn_mk KX G ?q12_a ?q12_l ?q12_c ?q12_k; (case q12_a => k_is); (case q12_l => k_is); (case q12_c => k_is); (case q12_k => k_is)
    case d_l_mixed =>
      refine' Mm.defIn_mk KX G ?q13_a ?q13_l ?q13_c ?q13_k; (case q13_a => k_is); (case q13_l => k_is); (case q13_c => k_is); (case q13_k => k_is)
    case d_l_same =>
      refine' Mm.defIn_mk KX G ?q14_a ?q14_l ?q14_c ?q14_k; (case q14_a => k_is); (case q14_l => k_is); (case q14_c => k_is); (case q14_k => k_is)
    case d_l_loose =>
      refine' Mm.defIn_mk KX G ?q15_a ?q15_l ?q15_c ?q15_k; (case q15_a => k_is); (case q15_l => k_is); (case q15_c => k_is); (case q15_k => k_is)
    case d_l_met =>
      refine' Mm.defIn_mk KX G ?q16_a ?q16_l ?q16_c ?q16_k; (case q16_a => k_is); (case q16_l => k_is); (case q16_c => k_is); (case q16_k => k_is)
    case d_l_webs_right =>
      refine' Mm.defIn_mk KX G ?q17_a ?q17_l ?q17_c ?q17_k; (case q17_a => k_is); (case q17_l => k_is); (case q17_c => k_is); (case q17_k => k_is)
    case d_l_things_right =>
      refine' Mm.defIn_mk KX G ?q18_a ?q18_l ?q18_c ?q18_k; (case q18_a => k_is); (case q18_l => k_is); (case q18_c => k_is); (case q18_k => k_is)
    case d_law =>
      refine' Mm.defIn_mk KX G ?q19_a ?q19_l ?q19_c ?q19_k; (case q19_a => k_is); (case q19_l => k_is); (case q19_c => k_is); (case q19_k => k_is)
    case l_check_web =>
      refine' Mm.lamIn_mk2 KX G ?q20_a ?q20_l ?q20_c ?q20_k ?q20_m ?q20_v ?q20_n; (case q20_a => k_is); (case q20_l => k_is); (case q20_c => k_is); (case q20_k => k_is); (case q20_m => k_is); (case q20_v => rfl); (case q20_n => kernel_rfl)
    case l_of_order =>
      refine' Mm.lamIn_mk2 KX G ?q21_a ?q21_l ?q21_c ?q21_k ?q21_m ?q21_v ?q21_n; (case q21_a => k_is); (case q21_l => k_is); (case q21_c => k_is); (case q21_k => k_is); (case q21_m => k_is); (case q21_v => rfl); (case q21_n => kernel_rfl)
    case l_of_leaps =>
      refine' Mm.lamIn_mk2 KX G ?q22_a ?q22_l ?q22_c ?q22_k ?q22_m ?q22_v ?q22_n; (case q22_a => k_is); (case q22_l => k_is); (case q22_c => k_is); (case q22_k => k_is); (case q22_m => k_is); (case q22_v => rfl); (case q22_n => kernel_rfl)
    case l_l_webs_right =>
      refine' Mm.lamIn_mk2 KX G ?q23_a ?q23_l ?q23_c ?q23_k ?q23_m ?q23_v ?q23_n; (case q23_a => k_is); (case q23_l => k_is); (case q23_c => k_is); (case q23_k => k_is); (case q23_m => k_is); (case q23_v => rfl); (case q23_n => kernel_rfl)
    case l_l_things_right =>
      refine' Mm.lamIn_mk2 KX G ?q24_a ?q24_l ?q24_c ?q24_k ?q24_m ?q24_v ?q24_n; (case q24_a => k_is); (case q24_l => k_is); (case q24_c => k_is); (case q24_k => k_is); (case q24_m => k_is); (case q24_v => rfl); (case q24_n => kernel_rfl)
    case l_law =>
      refine' Mm.lamIn_mk2 KX G ?q25_a ?q25_l ?q25_c ?q25_k ?q25_m ?q25_v ?q25_n; (case q25_a => k_is); (case q25_l => k_is); (case q25_c => k_is); (case q25_k => k_is); (case q25_m => k_is); (case q25_v => rfl); (case q25_n => kernel_rfl)
    case tt =>
      refine' Mm.tabsOk_mk (show List.map _ Lw.tabXs = _ from (Mm.tabL_cons (Mm.tabIn_of ?q26_ta0 ?q26_tl0 ?q26_th0 ?q26_tk0 ?q26_tv0) (Mm.tabL_cons (Mm.tabIn_of ?q26_ta1 ?q26_tl1 ?q26_th1 ?q26_tk1 ?q26_tv1) (Mm.tabL_cons (Mm.tabIn_of ?q26_ta2 ?q26_tl2 ?q26_th2 ?q26_tk2 ?q26_tv2) (Mm.tabL_cons (Mm.tabIn_of ?q26_ta3 ?q26_tl3 ?q26_th3 ?q26_tk3 ?q26_tv3) (Mm.tabL_cons (Mm.tabIn_of ?q26_ta4 ?q26_tl4 ?q26_th4 ?q26_tk4 ?q26_tv4) (Mm.tabL_cons (Mm.tabIn_of ?q26_ta5 ?q26_tl5 ?q26_th5 ?q26_tk5 ?q26_tv5) Mm.tabL_nil))))))) ?q26_nd; (case q26_ta0 => k_is); (case q26_tl0 => k_is); (case q26_th0 => rfl); (case q26_tk0 => k_is); (case q26_tv0 => rfl); (case q26_ta1 => k_is); (case q26_tl1 => k_is); (case q26_th1 => rfl); (case q26_tk1 => k_is); (case q26_tv1 => rfl); (case q26_ta2 => k_is); (case q26_tl2 => k_is); (case q26_th2 => rfl); (case q26_tk2 => k_is); (case q26_tv2 => rfl); (case q26_ta3 => k_is); (case q26_tl3 => k_is); (case q26_th3 => rfl); (case q26_tk3 => k_is); (case q26_tv3 => rfl); (case q26_ta4 => k_is); (case q26_tl4 => k_is); (case q26_th4 => rfl); (case q26_tk4 => k_is); (case q26_tv4 => rfl); (case q26_ta5 => k_is); (case q26_tl5 => k_is); (case q26_th5 => rfl); (case q26_tk5 => k_is); (case q26_tv5 => rfl); (case q26_nd => decide)
    case x_BadPlaces =>
      refine' Mm.exIn_mk (PySem.W.mg_of KX G ?q27_h1) ?q27_h2 ?q27_h3 ?q27_h4 ?q27_h5 ?q27_h6 ?q27_h7 ?q27_h8 ?q27_h9 ?q27_h10 ?q27_h11 ?q27_h12 ?q27_h13 ?q27_l ?q27_c ?q27_k
      (case q27_h1 => k_is); (case q27_h2 => k_is); (case q27_h3 => decide +kernel); (case q27_h4 => k_is); (case q27_h5 => k_is); (case q27_h6 => k_is); (case q27_h7 => k_is); (case q27_h8 => k_is); (case q27_h9 => k_is); (case q27_h10 => k_is); (case q27_h11 => k_is); (case q27_h12 => k_is)
      case q27_h13 =>
        intro f hf
        simp only [List.mem_cons, List.not_mem_nil, or_false] at hf
        rcases hf with rfl
        · k_is
      (case q27_l => k_is); (case q27_c => k_is); (case q27_k => k_is)
    case x_BadRoads =>
      refine' Mm.exIn_mk (PySem.W.mg_of KX G ?q28_h1) ?q28_h2 ?q28_h3 ?q28_h4 ?q28_h5 ?q28_h6 ?q28_h7 ?q28_h8 ?q28_h9 ?q28_h10 ?q28_h11 ?q28_h12 ?q28_h13 ?q28_l ?q28_c ?q28_k
      (case q28_h1 => k_is); (case q28_h2 => k_is); (case q28_h3 => decide +kernel); (case q28_h4 => k_is); (case q28_h5 => k_is); (case q28_h6 => k_is); (case q28_h7 => k_is); (case q28_h8 => k_is); (case q28_h9 => k_is); (case q28_h10 => k_is); (case q28_h11 => k_is); (case q28_h12 => k_is)
      case q28_h13 =>
        intro f hf
        simp only [List.mem_cons, List.not_mem_nil, or_false] at hf
        rcases hf with rfl
        · k_is
      (case q28_l => k_is); (case q28_c => k_is); (case q28_k => k_is)
    case x_BadBegins =>
      refine' Mm.exIn_mk (PySem.W.mg_of KX G ?q29_h1) ?q29_h2 ?q29_h3 ?q29_h4 ?q29_h5 ?q29_h6 ?q29_h7 ?q29_h8 ?q29_h9 ?q29_h10 ?q29_h11 ?q29_h12 ?q29_h13 ?q29_l ?q29_c ?q29_k
      (case q29_h1 => k_is); (case q29_h2 => k_is); (case q29_h3 => decide +kernel); (case q29_h4 => k_is); (case q29_h5 => k_is); (case q29_h6 => k_is); (case q29_h7 => k_is); (case q29_h8 => k_is); (case q29_h9 => k_is); (case q29_h10 => k_is); (case q29_h11 => k_is); (case q29_h12 => k_is)
      case q29_h13 =>
        intro f hf
        simp only [List.mem_cons, List.not_mem_nil, or_false] at hf
        rcases hf with rfl
        · k_is
      (case q29_l => k_is); (case q29_c => k_is); (case q29_k => k_is)
    case x_BadEnds =>
      refine' Mm.exIn_mk (PySem.W.mg_of KX G ?q30_h1) ?q30_h2 ?q30_h3 ?q30_h4 ?q30_h5 ?q30_h6 ?q30_h7 ?q30_h8 ?q30_h9 ?q30_h10 ?q30_h11 ?q30_h12 ?q30_h13 ?q30_l ?q30_c ?q30_k
      (case q30_h1 => k_is); (case q30_h2 => k_is); (case q30_h3 => decide +kernel); (case q30_h4 => k_is); (case q30_h5 => k_is); (case q30_h6 => k_is); (case q30_h7 => k_is); (case q30_h8 => k_is); (case q30_h9 => k_is); (case q30_h10 => k_is); (case q30_h11 => k_is); (case q30_h12 => k_is)
      case q30_h13 =>
        intro f hf
        simp only [List.mem_cons, List.not_mem_nil, or_false] at hf
        rcases hf with rfl
        · k_is
      (case q30_l => k_is); (case q30_c => k_is); (case q30_k => k_is)
    case x_BadMany =>
      refine' Mm.exIn_mk (PySem.W.mg_of KX G ?q31_h1) ?q31_h2 ?q31_h3 ?q31_h4 ?q31_h5 ?q31_h6 ?q31_h7 ?q31_h8 ?q31_h9 ?q31_h10 ?q31_h11 ?q31_h12 ?q31_h13 ?q31_l ?q31_c ?q31_k
      (case q31_h1 => k_is); (case q31_h2 => k_is); (case q31_h3 => decide +kernel); (case q31_h4 => k_is); (case q31_h5 => k_is); (case q31_h6 => k_is); (case q31_h7 => k_is); (case q31_h8 => k_is); (case q31_h9 => k_is); (case q31_h10 => k_is); (case q31_h11 => k_is); (case q31_h12 => k_is)
      case q31_h13 =>
        intro f hf
        simp only [List.mem_cons, List.not_mem_nil, or_false] at hf
        rcases hf with rfl
        · k_is
      (case q31_l => k_is); (case q31_c => k_is); (case q31_k => k_is)
    case x_BadPairs =>
      refine' Mm.exIn_mk (PySem.W.mg_of KX G ?q32_h1) ?q32_h2 ?q32_h3 ?q32_h4 ?q32_h5 ?q32_h6 ?q32_h7 ?q32_h8 ?q32_h9 ?q32_h10 ?q32_h11 ?q32_h12 ?q32_h13 ?q32_l ?q32_c ?q32_k
      (case q32_h1 => k_is); (case q32_h2 => k_is); (case q32_h3 => decide +kernel); (case q32_h4 => k_is); (case q32_h5 => k_is); (case q32_h6 => k_is); (case q32_h7 => k_is); (case q32_h8 => k_is); (case q32_h9 => k_is); (case q32_h10 => k_is); (case q32_h11 => k_is); (case q32_h12 => k_is)
      case q32_h13 =>
        intro f hf
        simp only [List.mem_cons, List.not_mem_nil, or_false] at hf
        rcases hf with rfl
        · k_is
      (case q32_l => k_is); (case q32_c => k_is); (case q32_k => k_is)
    case x_BadRows =>
      refine' Mm.exIn_mk (PySem.W.mg_of KX G ?q33_h1) ?q33_h2 ?q33_h3 ?q33_h4 ?q33_h5 ?q33_h6 ?q33_h7 ?q33_h8 ?q33_h9 ?q33_h10 ?q33_h11 ?q33_h12 ?q33_h13 ?q33_l ?q33_c ?q33_k
      (case q33_h1 => k_is); (case q33_h2 => k_is); (case q33_h3 => decide +kernel); (case q33_h4 => k_is); (case q33_h5 => k_is); (case q33_h6 => k_is); (case q33_h7 => k_is); (case q33_h8 => k_is); (case q33_h9 => k_is); (case q33_h10 => k_is); (case q33_h11 => k_is); (case q33_h12 => k_is)
      case q33_h13 =>
        intro f hf
        simp only [List.mem_cons, List.not_mem_nil, or_false] at hf
        rcases hf with rfl
        · k_is
      (case q33_l => k_is); (case q33_c => k_is); (case q33_k => k_is)
    case xm_l_met =>
      intro B hB z hz
      simp only [Lw.Bs_l_met, Lw.Kl_l_met, List.mem_cons, List.not_mem_nil, or_false] at hB hz
      rcases hB with rfl | rfl | rfl | rfl | rfl | rfl | rfl <;> rcases hz with rfl | rfl | rfl | rfl | rfl | rfl | rfl
      · (refine' Mm.xm_one2 (PySem.W.mg_of KX G ?q34_a) (PySem.W.mg_of KX G ?q34_b) ?q34_c; (case q34_a => k_is); (case q34_b => k_is); (case q34_c => kernel_rfl))
      · (refine' Mm.xm_one2 (PySem.W.mg_of KX G ?q34_a) (PySem.W.mg_of KX G ?q34_b) ?q34_c; (case q34_a => k_is); (case q34_b => k_is); (case q34_c => kernel_rfl))
      · (refine' Mm.xm_one2 (PySem.W.mg_of KX G ?q34_a) (PySem.W.mg_of KX G ?q34_b) ?q34_c; (case q34_a => k_is); (case q34_b => k_is); (case q34_c => kernel_rfl))
      · (refine' Mm.xm_one2 (PySem.W.mg_of KX G ?q34_a) (PySem.W.mg_of KX G ?q34_b) ?q34_c; (case q34_a => k_is); (case q34_b => k_is); (case q34_c => kernel_rfl))
      · (refine' Mm.xm_one2 (PySem.W.mg_of KX G ?q34_a) (PySem.W.mg_of KX G ?q34_b) ?q34_c; (case q34_a => k_is); (case q34_b => k_is); (case q34_c => kernel_rfl))
      · (refine' Mm.xm_one2 (PySem.W.mg_of KX G ?q34_a) (PySem.W.mg_of KX G ?q34_b) ?q34_c; (case q34_a => k_is); (case q34_b => k_is); (case q34_c => kernel_rfl))
      · (refine' Mm.xm_one2 (PySem.W.mg_of KX G ?q34_a) (PySem.W.mg_of KX G ?q34_b) ?q34_c; (case q34_a => k_is); (case q34_b => k_is); (case q34_c => kernel_rfl))
      · (refine' Mm.xm_one2 (PySem.W.mg_of KX G ?q34_a) (PySem.W.mg_of KX G ?q34_b) ?q34_c; (case q34_a => k_is); (case q34_b => k_is); (case q34_c => kernel_rfl))
      · (refine' Mm.xm_one2 (PySem.W.mg_of KX G ?q34_a) (PySem.W.mg_of KX G ?q34_b) ?q34_c; (case q34_a => k_is); (case q34_b => k_is); (case q34_c => kernel_rfl))
      · (refine' Mm.xm_one2 (PySem.W.mg_of KX G ?q34_a) (PySem.W.mg_of KX G ?q34_b) ?q34_c; (case q34_a => k_is); (case q34_b => k_is); (case q34_c => kernel_rfl))
      · (refine' Mm.xm_one2 (PySem.W.mg_of KX G ?q34_a) (PySem.W.mg_of KX G ?q34_b) ?q34_c; (case q34_a => k_is); (case q34_b => k_is); (case q34_c => kernel_rfl))
      · (refine' Mm.xm_one2 (PySem.W.mg_of KX G ?q34_a) (PySem.W.mg_of KX G ?q34_b) ?q34_c; (case q34_a => k_is); (case q34_b => k_is); (case q34_c => kernel_rfl))
      · (refine' Mm.xm_one2 (PySem.W.mg_of KX G ?q34_a) (PySem.W.mg_of KX G ?q34_b) ?q34_c; (case q34_a => k_is); (case q34_b => k_is); (case q34_c => kernel_rfl))
      · (refine' Mm.xm_one2 (PySem.W.mg_of KX G ?q34_a) (PySem.W.mg_of KX G ?q34_b) ?q34_c; (case q34_a => k_is); (case q34_b => k_is); (case q34_c => kernel_rfl))
      · (refine' Mm.xm_one2 (PySem.W.mg_of KX G ?q34_a) (PySem.W.mg_of KX G ?q34_b) ?q34_c; (case q34_a => k_is); (case q34_b => k_is); (case q34_c => kernel_rfl))
      · (refine' Mm.xm_one2 (PySem.W.mg_of KX G ?q34_a) (PySem.W.mg_of KX G ?q34_b) ?q34_c; (case q34_a => k_is); (case q34_b => k_is); (case q34_c => kernel_rfl))
      · (refine' Mm.xm_one2 (PySem.W.mg_of KX G ?q34_a) (PySem.W.mg_of KX G ?q34_b) ?q34_c; (case q34_a => k_is); (case q34_b => k_is); (case q34_c => kernel_rfl))
      · (refine' Mm.xm_one2 (PySem.W.mg_of KX G ?q34_a) (PySem.W.mg_of KX G ?q34_b) ?q34_c; (case q34_a => k_is); (case q34_b => k_is); (case q34_c => kernel_rfl))
      · (refine' Mm.xm_one2 (PySem.W.mg_of KX G ?q34_a) (PySem.W.mg_of KX G ?q34_b) ?q34_c; (case q34_a => k_is); (case q34_b => k_is); (case q34_c => kernel_rfl))
      · (refine' Mm.xm_one2 (PySem.W.mg_of KX G ?q34_a) (PySem.W.mg_of KX G ?q34_b) ?q34_c; (case q34_a => k_is); (case q34_b => k_is); (case q34_c => kernel_rfl))
      · (refine' Mm.xm_one2 (PySem.W.mg_of KX G ?q34_a) (PySem.W.mg_of KX G ?q34_b) ?q34_c; (case q34_a => k_is); (case q34_b => k_is); (case q34_c => kernel_rfl))
      · (refine' Mm.xm_one2 (PySem.W.mg_of KX G ?q34_a) (PySem.W.mg_of KX G ?q34_b) ?q34_c; (case q34_a => k_is); (case q34_b => k_is); (case q34_c => kernel_rfl))
      · (refine' Mm.xm_one2 (PySem.W.mg_of KX G ?q34_a) (PySem.W.mg_of KX G ?q34_b) ?q34_c; (case q34_a => k_is); (case q34_b => k_is); (case q34_c => kernel_rfl))
      · (refine' Mm.xm_one2 (PySem.W.mg_of KX G ?q34_a) (PySem.W.mg_of KX G ?q34_b) ?q34_c; (case q34_a => k_is); (case q34_b => k_is); (case q34_c => kernel_rfl))
      · (refine' Mm.xm_one2 (PySem.W.mg_of KX G ?q34_a) (PySem.W.mg_of KX G ?q34_b) ?q34_c; (case q34_a => k_is); (case q34_b => k_is); (case q34_c => kernel_rfl))
      · (refine' Mm.xm_one2 (PySem.W.mg_of KX G ?q34_a) (PySem.W.mg_of KX G ?q34_b) ?q34_c; (case q34_a => k_is); (case q34_b => k_is); (case q34_c => kernel_rfl))
      · (refine' Mm.xm_one2 (PySem.W.mg_of KX G ?q34_a) (PySem.W.mg_of KX G ?q34_b) ?q34_c; (case q34_a => k_is); (case q34_b => k_is); (case q34_c => kernel_rfl))
      · (refine' Mm.xm_one2 (PySem.W.mg_of KX G ?q34_a) (PySem.W.mg_of KX G ?q34_b) ?q34_c; (case q34_a => k_is); (case q34_b => k_is); (case q34_c => kernel_rfl))
      · (refine' Mm.xm_one2 (PySem.W.mg_of KX G ?q34_a) (PySem.W.mg_of KX G ?q34_b) ?q34_c; (case q34_a => k_is); (case q34_b => k_is); (case q34_c => kernel_rfl))
      · (refine' Mm.xm_one2 (PySem.W.mg_of KX G ?q34_a) (PySem.W.mg_of KX G ?q34_b) ?q34_c; (case q34_a => k_is); (case q34_b => k_is); (case q34_c => kernel_rfl))
      · (refine' Mm.xm_one2 (PySem.W.mg_of KX G ?q34_a) (PySem.W.mg_of KX G ?q34_b) ?q34_c; (case q34_a => k_is); (case q34_b => k_is); (case q34_c => kernel_rfl))
      · (refine' Mm.xm_one2 (PySem.W.mg_of KX G ?q34_a) (PySem.W.mg_of KX G ?q34_b) ?q34_c; (case q34_a => k_is); (case q34_b => k_is); (case q34_c => kernel_rfl))
      · (refine' Mm.xm_one2 (PySem.W.mg_of KX G ?q34_a) (PySem.W.mg_of KX G ?q34_b) ?q34_c; (case q34_a => k_is); (case q34_b => k_is); (case q34_c => kernel_rfl))
      · (refine' Mm.xm_one2 (PySem.W.mg_of KX G ?q34_a) (PySem.W.mg_of KX G ?q34_b) ?q34_c; (case q34_a => k_is); (case q34_b => k_is); (case q34_c => kernel_rfl))
      · (refine' Mm.xm_one2 (PySem.W.mg_of KX G ?q34_a) (PySem.W.mg_of KX G ?q34_b) ?q34_c; (case q34_a => k_is); (case q34_b => k_is); (case q34_c => kernel_rfl))
      · (refine' Mm.xm_one2 (PySem.W.mg_of KX G ?q34_a) (PySem.W.mg_of KX G ?q34_b) ?q34_c; (case q34_a => k_is); (case q34_b => k_is); (case q34_c => kernel_rfl))
      · (refine' Mm.xm_one2 (PySem.W.mg_of KX G ?q34_a) (PySem.W.mg_of KX G ?q34_b) ?q34_c; (case q34_a => k_is); (case q34_b => k_is); (case q34_c => kernel_rfl))
      · (refine' Mm.xm_one2 (PySem.W.mg_of KX G ?q34_a) (PySem.W.mg_of KX G ?q34_b) ?q34_c; (case q34_a => k_is); (case q34_b => k_is); (case q34_c => kernel_rfl))
      · (refine' Mm.xm_one2 (PySem.W.mg_of KX G ?q34_a) (PySem.W.mg_of KX G ?q34_b) ?q34_c; (case q34_a => k_is); (case q34_b => k_is); (case q34_c => kernel_rfl))
      · (refine' Mm.xm_one2 (PySem.W.mg_of KX G ?q34_a) (PySem.W.mg_of KX G ?q34_b) ?q34_c; (case q34_a => k_is); (case q34_b => k_is); (case q34_c => kernel_rfl))
      · (refine' Mm.xm_one2 (PySem.W.mg_of KX G ?q34_a) (PySem.W.mg_of KX G ?q34_b) ?q34_c; (case q34_a => k_is); (case q34_b => k_is); (case q34_c => kernel_rfl))
      · (refine' Mm.xm_one2 (PySem.W.mg_of KX G ?q34_a) (PySem.W.mg_of KX G ?q34_b) ?q34_c; (case q34_a => k_is); (case q34_b => k_is); (case q34_c => kernel_rfl))
      · (refine' Mm.xm_one2 (PySem.W.mg_of KX G ?q34_a) (PySem.W.mg_of KX G ?q34_b) ?q34_c; (case q34_a => k_is); (case q34_b => k_is); (case q34_c => kernel_rfl))
      · (refine' Mm.xm_one2 (PySem.W.mg_of KX G ?q34_a) (PySem.W.mg_of KX G ?q34_b) ?q34_c; (case q34_a => k_is); (case q34_b => k_is); (case q34_c => kernel_rfl))
      · (refine' Mm.xm_one2 (PySem.W.mg_of KX G ?q34_a) (PySem.W.mg_of KX G ?q34_b) ?q34_c; (case q34_a => k_is); (case q34_b => k_is); (case q34_c => kernel_rfl))
      · (refine' Mm.xm_one2 (PySem.W.mg_of KX G ?q34_a) (PySem.W.mg_of KX G ?q34_b) ?q34_c; (case q34_a => k_is); (case q34_b => k_is); (case q34_c => kernel_rfl))
      · (refine' Mm.xm_one2 (PySem.W.mg_of KX G ?q34_a) (PySem.W.mg_of KX G ?q34_b) ?q34_c; (case q34_a => k_is); (case q34_b => k_is); (case q34_c => kernel_rfl))
      · (refine' Mm.xm_one2 (PySem.W.mg_of KX G ?q34_a) (PySem.W.mg_of KX G ?q34_b) ?q34_c; (case q34_a => k_is); (case q34_b => k_is); (case q34_c => kernel_rfl))
      · (refine' Mm.xm_one2 (PySem.W.mg_of KX G ?q34_a) (PySem.W.mg_of KX G ?q34_b) ?q34_c; (case q34_a => k_is); (case q34_b => k_is); (case q34_c => kernel_rfl))
    case n_abs =>
      refine' PySem.W.mg_none_of KX G ?q35_z; (case q35_z => k_is)
    case n_all =>
      refine' PySem.W.mg_none_of KX G ?q36_z; (case q36_z => k_is)
    case n_any =>
      refine' PySem.W.mg_none_of KX G ?q37_z; (case q37_z => k_is)
    case n_bool =>
      refine' PySem.W.mg_none_of KX G ?q38_z; (case q38_z => k_is)
    case n_dict =>
      refine' PySem.W.mg_none_of KX G ?q39_z; (case q39_z => k_is)
    case n_enumerate =>
      refine' PySem.W.mg_none_of KX G ?q40_z; (case q40_z => k_is)
    case n_int =>
      refine' PySem.W.mg_none_of KX G ?q41_z; (case q41_z => k_is)
    case n_isinstance =>
      refine' PySem.W.mg_none_of KX G ?q42_z; (case q42_z => k_is)
    case n_len =>
      refine' PySem.W.mg_none_of KX G ?q43_z; (case q43_z => k_is)
    case n_list =>
      refine' PySem.W.mg_none_of KX G ?q44_z; (case q44_z => k_is)
    case n_range =>
      refine' PySem.W.mg_none_of KX G ?q45_z; (case q45_z => k_is)
    case n_tuple =>
      refine' PySem.W.mg_none_of KX G ?q46_z; (case q46_z => k_is)
    case n_zip =>
      refine' PySem.W.mg_none_of KX G ?q47_z; (case q47_z => k_is)
    case kit =>
      refine' ⟨fun x hx => ?q48_kf, fun C hx => ?q48_kc⟩
      case q48_kf =>
        unfold Lw.fns at hx
        (cases hx)
        
      case q48_kc =>
        unfold Lw.clss at hx
        (cases hx)
        
    case g_of_leaps =>
      refine' Mm.glo_mk (PySem.W.mg_of KX G ?q49_a); (case q49_a => k_is)
    case g_of_order =>
      refine' Mm.glo_mk (PySem.W.mg_of KX G ?q50_a); (case q50_a => k_is)
    case g_of_places =>
      refine' Mm.glo_mk (PySem.W.mg_of KX G ?q51_a); (case q51_a => k_is)
    case g_of_roads =>
      refine' Mm.glo_mk (PySem.W.mg_of KX G ?q52_a); (case q52_a => k_is)
