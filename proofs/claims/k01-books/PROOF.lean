import PyProof.Rows.All
import Wide.All
import OpenK.AllK
import Wide.FinOn
import PySem.Challenge.RW_waysthatcross_k01_whole_books_made
import HandS.ForMost
import HandS.ForExc
import HandS.EndBits
import HandS.Conv
import HandS.DictComp
import HandS.WordsDict
import HandS.TupLen
import HandS.MakeKw
import HandS.MakeKwOnly
import HandS.Iter
import HandS.Zip
import KE.GoesMore
import PyProof.Draws
import HandS.IsInst
import HandS.SlotsOwn
import KE.KFmtOwn
import PyProof.InstEq
import KE.KIsAll
import HandS.NoneIn
import HandS.Small
import HandS.Deep
import HandS.Style
import HandS.Wide
import HandS.SortInts
import HandS.TupAny
import HandS.TupMul
import KE.KStar
set_option Elab.async false
set_option linter.all false
set_option maxRecDepth 100000
set_option maxHeartbeats 4000000
section
/-! MmN: isinstance of a def. -/
namespace Mm
open PySem
open PySem.Sem (wp)
open PySem.W (kitx_of KitX KitAt kitAt_ty)
theorem lk_fn_class : typeLookup (.type "function") "__class__" = pure (some (.builtin "object.__class__")) := by rw [typeLookup_type, builtinLookup_eq_fast]; kernel_rfl
theorem sub_fn_class_owner : isSubtype (.type "function") (.type (".".intercalate ("object.__class__".cutAt '.').dropLast)) = pure true := by
  rw [F.owner_object_class, isSubtype_type]; kernel_rfl
theorem slot_fn_getattribute : Slot "function" "__getattribute__" "object.__getattribute__" :=
  .of (owner := "object") (n := "__getattribute__") (by rw [typeLookup_type, builtinLookup_eq_fast]; kernel_rfl) (by decide +kernel) (by decide +kernel) (by decide +kernel)
    (by first | exact .inl (by decide +kernel) | exact .inr (by decide +kernel)) (by rw [isSubtype_type]; kernel_rfl)

section
variable {prog : Program} {w : World} {A : Around} {E : Value → Shared → Prop} {h : Heap} {g : Array GenState} {d : Drawn} {t : Nat} {os : OsState} {a : Addr} {o : Obj}

theorem class_get_fn {R : Result → Shared → Prop} (hx : h.get? a = some o) (hc : o.cls = .type "function") (hq : R (.ok (.ret (.type "function"))) ⟨h, g, d, t, os⟩) :
    codeAny (model prog w) A (.call (.builtin "getset_descriptor.__get__") ⟨[.builtin "object.__class__", .ref a, .type "function"], []⟩) R ⟨h, g, d, t, os⟩ := by
  have hT : (⟨h, g, d, t, os⟩ : Shared).TypeIs (.ref a) "function" := ⟨_, hx, hc⟩
  have hT5 : (⟨h, g, d, t, os⟩ : Shared).TypeIs (.builtin "object.__class__") "getset_descriptor" := F.typeOf_object_class
  have f8 := sub_fn_class_owner
  refine codeAny_call_builtin F.slot_gs_get.plain F.entry_gs_get (F.slot_gs_get.check _ _ _ _ _ _ _ _ hT5 (F.args_gs_get _ _ _) ?_)
  repeat (any_goals (first | assumption | wp_step))
  refine ⟨Code.quiet_builtin _ (by decide +kernel), codeAny_builtin F.entry_object_class ?_⟩
  repeat (any_goals (first | assumption | wp_step))

theorem class_entry_fn {tk : Tok} {Q : Fin → Shared → Prop} (hx : h.get? a = some o) (hc : o.cls = .type "function") (hq : Q (.done (.ret (.type "function"))) ⟨h, g, d, t, os⟩) :
    wpAny (model prog w) A (Builtin.«object.__getattribute__» ⟨[.ref a, .str "__class__" tk], []⟩) Q E ⟨h, g, d, t, os⟩ := by
  have hT : (⟨h, g, d, t, os⟩ : Shared).TypeIs (.ref a) "function" := ⟨_, hx, hc⟩
  have hT5 : (⟨h, g, d, t, os⟩ : Shared).TypeIs (.builtin "object.__class__") "getset_descriptor" := F.typeOf_object_class
  have f4 := lk_fn_class
  have f5 := F.typeOf_object_class
  have f6 := F.slot_gs_get.lookup
  have f7 := F.slot_gs_set.lookup
  repeat (any_goals (first | assumption | wp_step))
  refine class_get_fn hx hc ?_
  repeat (any_goals (first | assumption | wp_step))

theorem class_call_fn {tk : Tok} {R : Result → Shared → Prop} (hx : h.get? a = some o) (hc : o.cls = .type "function") (hq : R (.ok (.ret (.type "function"))) ⟨h, g, d, t, os⟩) :
    codeAny (model prog w) A (.call (.builtin "object.__getattribute__") ⟨[.ref a, .str "__class__" tk], []⟩) R ⟨h, g, d, t, os⟩ :=
  codeAny_call_builtin slot_fn_getattribute.plain F.entry_object_getattribute (slot_fn_getattribute.check _ _ _ _ _ _ _ _ (show (⟨h, g, d, t, os⟩ : Shared).TypeIs (.ref a) "function" from ⟨_, hx, hc⟩) (F.args_object_getattribute_2 _ _) (class_entry_fn hx hc hq))

theorem class_by_fn {tk : Tok} {Q : Value → Shared → Prop} (hx : h.get? a = some o) (hc : o.cls = .type "function") (hq : Q (.type "function") ⟨h, g, d, t, os⟩) : wpAny (model prog w) A (getAttrBy (.ref a) (.str "__class__" tk) false) Q E ⟨h, g, d, t, os⟩ := by
  have hT : (⟨h, g, d, t, os⟩ : Shared).TypeIs (.ref a) "function" := ⟨_, hx, hc⟩
  have f2 := slot_fn_getattribute.lookup
  have f3 := slot_fn_getattribute.bind (.ref a)
  repeat (any_goals (first | assumption | wp_step))
  refine class_call_fn hx hc ?_
  repeat (any_goals (first | assumption | wp_step))

theorem class_attr_fn {Q : Option Value → Shared → Prop} (hx : h.get? a = some o) (hc : o.cls = .type "function") (hq : Q (some (.type "function")) ⟨h, g, d, t + 1, os⟩) : wpAny (model prog w) A (getAttr? (.ref a) "__class__") Q E ⟨h, g, d, t, os⟩ := by
  unfold getAttr? getAttrBy?
  repeat (any_goals (first | assumption | with_reducible apply class_by_fn hx hc | wp_step))


end
theorem kitx_fn {K : PySem.W.Frag} {a : Addr} : KitX K (.ref a) (.type "function") (KitAt a "function") := kitx_of kitAt_ty (fun {_ _ _ _ _ s} p k => by obtain ⟨h, g, d, t, os⟩ := s; obtain ⟨o, h1, h2⟩ := p; exact class_attr_fn h1 h2 k)
end Mm
end

section
/-! MmA: values as trees, boxes for what changes, the state of a def, and how they stand for the heap. -/
namespace Mm
open PySem L2

inductive D where
  | non | bl (b : Bool) | int (i : Int) | str (x : Str) | ty (n : String) | glo (x : Str) | box (r : Nat)
  | lst (xs : List D) | tup (xs : List D) | scr (ns : List Int)

inductive Cell where
  | lst (xs : List D) | dK (kvs : List (Key × D)) | dT (kvs : List (List Key × D)) | ins (C : Str) (fs : List (Str × D))

/-- the boxes: how many there have been, what the live ones hold -/
structure G where
  nx : Nat
  cs : Nat → Option Cell

/-- a slot of a frame: nothing, a value, an object of its own -/
inductive Slot where
  | emp | val (d : D) | own (c : Cell)

structure Sg where
  sl : List Slot
  g : G

inductive R (α : Type) where
  | ok (a : α) (s : Sg) | exc (C : Str) (fs : List (Str × D)) (s : Sg) | stuck

abbrev M (α : Type) := Sg → R α
def R.bind {α β : Type} (r : R α) (k : α → Sg → R β) : R β := match r with
  | .ok a s => k a s
  | .exc C fs s => .exc C fs s
  | .stuck => .stuck
def bd {α β : Type} (m : M α) (k : α → M β) : M β := fun s => (m s).bind k
def ret {α : Type} (a : α) : M α := fun s => .ok a s
def nope {α : Type} : M α := fun _ => .stuck
@[simp] theorem bind_ok {α β : Type} (a : α) (s : Sg) (k : α → Sg → R β) : R.bind (.ok a s) k = k a s := rfl
@[simp] theorem bind_exc {α β : Type} (C : Str) (fs : List (Str × D)) (s : Sg) (k : α → Sg → R β) : R.bind (.exc C fs s) k = .exc C fs s := rfl
@[simp] theorem bind_stuck {α β : Type} (k : α → Sg → R β) : R.bind (.stuck : R α) k = .stuck := rfl

/-- what is written: the law's own objects by name -/
structure Gm where
  K : PySem.W.Frag
  gl : Str → Option Addr

/-- what never changes any more, and where the boxes stand -/
structure Wd where
  Hf : Hp
  ro : Nat → Addr
  n : Nat

mutual
def Rep (c : Gm) (w : Wd) : D → V → Prop
  | .non, v => v = .non
  | .bl b, v => v = .bl b
  | .int i, v => v = .int i
  | .str x, v => v = .str x
  | .ty n, v => v = .ty n
  | .glo x, v => ∃ a, c.gl x = some a ∧ v = .ref a
  | .box r, v => r < w.n ∧ v = .ref (w.ro r)
  | .scr ns, v => ∃ a, v = .ref a ∧ SqL c.K w.Hf a (ns.map V.int)
  | .lst xs, v => ∃ a vs, v = .ref a ∧ w.Hf a = some (.lst vs) ∧ Reps c w xs vs
  | .tup xs, v => ∃ a vs, v = .ref a ∧ w.Hf a = some (.tup vs) ∧ Reps c w xs vs
def Reps (c : Gm) (w : Wd) : List D → List V → Prop
  | [], vs => vs = []
  | x :: xs, vs => ∃ v r, vs = v :: r ∧ Rep c w x v ∧ Reps c w xs r
end

structure Le (w w' : Wd) : Prop where
  hf : ∀ a o, w.Hf a = some o → w'.Hf a = some o
  n : w.n ≤ w'.n
  ro : ∀ r, r < w.n → w'.ro r = w.ro r
theorem Le.refl (w : Wd) : Le w w := ⟨fun _ _ h => h, Nat.le_refl _, fun _ _ => rfl⟩
theorem Le.trans {w w1 w2 : Wd} (a : Le w w1) (b : Le w1 w2) : Le w w2 :=
  ⟨fun x o h => b.hf x o (a.hf x o h), Nat.le_trans a.n b.n, fun r h => (b.ro r (Nat.lt_of_lt_of_le h a.n)).trans (a.ro r h)⟩

theorem sqL_le {K : PySem.W.Frag} {H H' : Hp} {a : Addr} {xs : List V} (e : ∀ a o, H a = some o → H' a = some o) (h : SqL K H a xs) : SqL K H' a xs := by
  rcases h with (h | ⟨o, h⟩) | h
  · exact .inl (.inl (e _ _ h))
  · exact .inl (.inr ⟨o, e _ _ h⟩)
  · exact .inr h
theorem sqT_le {K : PySem.W.Frag} {H H' : Hp} {a : Addr} {xs : List V} (e : ∀ a o, H a = some o → H' a = some o) (h : SqT K H a xs) : SqT K H' a xs := by
  rcases h with (h | ⟨o, h⟩) | h
  · exact .inl (.inl (e _ _ h))
  · exact .inl (.inr ⟨o, e _ _ h⟩)
  · exact .inr h

section
variable {c : Gm} {w w' : Wd}
mutual
theorem Rep.mono (l : Le w w') : ∀ (d : D) (v : V), Rep c w d v → Rep c w' d v
  | .non, v, h => by simp only [Rep] at h ⊢; exact h
  | .bl b, v, h => by simp only [Rep] at h ⊢; exact h
  | .int i, v, h => by simp only [Rep] at h ⊢; exact h
  | .str x, v, h => by simp only [Rep] at h ⊢; exact h
  | .ty n, v, h => by simp only [Rep] at h ⊢; exact h
  | .glo x, v, h => by simp only [Rep] at h ⊢; exact h
  | .box r, v, h => by
    simp only [Rep] at h ⊢
    exact ⟨Nat.lt_of_lt_of_le h.1 l.n, by rw [l.ro r h.1]; exact h.2⟩
  | .scr ns, v, h => by
    simp only [Rep] at h ⊢
    obtain ⟨a, e, h1⟩ := h
    exact ⟨a, e, sqL_le l.hf h1⟩
  | .lst xs, v, h => by
    simp only [Rep] at h ⊢
    obtain ⟨a, vs, e, h1, h2⟩ := h
    exact ⟨a, vs, e, l.hf _ _ h1, Reps.mono l xs vs h2⟩
  | .tup xs, v, h => by
    simp only [Rep] at h ⊢
    obtain ⟨a, vs, e, h1, h2⟩ := h
    exact ⟨a, vs, e, l.hf _ _ h1, Reps.mono l xs vs h2⟩
theorem Reps.mono (l : Le w w') : ∀ (ds : List D) (vs : List V), Reps c w ds vs → Reps c w' ds vs
  | [], vs, h => by simp only [Reps] at h ⊢; exact h
  | x :: xs, vs, h => by
    simp only [Reps] at h ⊢
    obtain ⟨v, r, e, h1, h2⟩ := h
    exact ⟨v, r, e, Rep.mono l x v h1, Reps.mono l xs r h2⟩
end

theorem reps_nil {vs : List V} : Reps c w [] vs ↔ vs = [] := by simp only [Reps]
theorem reps_cons {x : D} {xs : List D} {vs : List V} : Reps c w (x :: xs) vs ↔ ∃ v r, vs = v :: r ∧ Rep c w x v ∧ Reps c w xs r := by simp only [Reps]
theorem Reps.cons {x : D} {xs : List D} {v : V} {vs : List V} (h : Rep c w x v) (t : Reps c w xs vs) : Reps c w (x :: xs) (v :: vs) := reps_cons.mpr ⟨v, vs, rfl, h, t⟩
theorem Reps.nil : Reps c w [] [] := reps_nil.mpr rfl
theorem Reps.length : ∀ {xs : List D} {vs : List V}, Reps c w xs vs → xs.length = vs.length
  | [], vs, h => by rw [reps_nil.mp h] <;> rfl
  | x :: xs, vs, h => by
    obtain ⟨v, r, rfl, _, t⟩ := reps_cons.mp h
    simp only [List.length_cons, Reps.length t]
theorem Reps.get : ∀ {xs : List D} {vs : List V} {i : Nat} {x : D}, Reps c w xs vs → xs[i]? = some x → ∃ v, vs[i]? = some v ∧ Rep c w x v
  | [], vs, i, x, h, e => by simp at e
  | y :: xs, vs, 0, x, h, e => by
    obtain ⟨v, r, rfl, q, t⟩ := reps_cons.mp h
    simp at e; subst e
    exact ⟨v, rfl, q⟩
  | y :: xs, vs, i + 1, x, h, e => by
    obtain ⟨v, r, rfl, q, t⟩ := reps_cons.mp h
    obtain ⟨u, h1, h2⟩ := Reps.get (i := i) (x := x) t (by simpa using e)
    exact ⟨u, by simpa using h1, h2⟩
theorem Reps.get' : ∀ {xs : List D} {vs : List V} {i : Nat} {v : V}, Reps c w xs vs → vs[i]? = some v → ∃ x, xs[i]? = some x ∧ Rep c w x v
  | [], vs, i, x, h, e => by rw [reps_nil.mp h] at e; simp at e
  | y :: xs, vs, 0, x, h, e => by
    obtain ⟨v, r, rfl, q, t⟩ := reps_cons.mp h
    simp at e; subst e
    exact ⟨y, rfl, q⟩
  | y :: xs, vs, i + 1, x, h, e => by
    obtain ⟨v, r, rfl, q, t⟩ := reps_cons.mp h
    obtain ⟨u, h1, h2⟩ := Reps.get' (i := i) (v := x) t (by simpa using e)
    exact ⟨u, by simpa using h1, h2⟩
theorem Reps.append : ∀ {xs ys : List D} {vs us : List V}, Reps c w xs vs → Reps c w ys us → Reps c w (xs ++ ys) (vs ++ us)
  | [], ys, vs, us, h, k => by rw [reps_nil.mp h]; exact k
  | x :: xs, ys, vs, us, h, k => by
    obtain ⟨v, r, rfl, q, t⟩ := reps_cons.mp h
    exact .cons q (Reps.append t k)
theorem Reps.snoc {xs : List D} {vs : List V} {x : D} {v : V} (h : Reps c w xs vs) (q : Rep c w x v) : Reps c w (xs ++ [x]) (vs ++ [v]) := h.append (.cons q .nil)
theorem Reps.set {x : D} {v : V} (q : Rep c w x v) : ∀ {xs : List D} {vs : List V} (i : Nat), Reps c w xs vs → Reps c w (xs.set i x) (vs.set i v)
  | [], vs, i, h => by rw [reps_nil.mp h]; exact .nil
  | y :: xs, vs, 0, h => by
    obtain ⟨u, r, rfl, _, t⟩ := reps_cons.mp h
    exact .cons q t
  | y :: xs, vs, i + 1, h => by
    obtain ⟨u, r, rfl, p, t⟩ := reps_cons.mp h
    exact .cons p (Reps.set q i t)
theorem Reps.take : ∀ {xs : List D} {vs : List V} (n : Nat), Reps c w xs vs → Reps c w (xs.take n) (vs.take n)
  | [], vs, n, h => by rw [reps_nil.mp h]; simp; exact .nil
  | y :: xs, vs, 0, h => by simp; exact .nil
  | y :: xs, vs, n + 1, h => by
    obtain ⟨u, r, rfl, p, t⟩ := reps_cons.mp h
    exact .cons p (Reps.take n t)
theorem Reps.drop : ∀ {xs : List D} {vs : List V} (n : Nat), Reps c w xs vs → Reps c w (xs.drop n) (vs.drop n)
  | [], vs, n, h => by rw [reps_nil.mp h]; simp; exact .nil
  | y :: xs, vs, 0, h => h
  | y :: xs, vs, n + 1, h => by
    obtain ⟨u, r, rfl, p, t⟩ := reps_cons.mp h
    exact Reps.drop n t
theorem Reps.eraseIdx : ∀ {xs : List D} {vs : List V} (i : Nat), Reps c w xs vs → Reps c w (xs.eraseIdx i) (vs.eraseIdx i)
  | [], vs, i, h => by rw [reps_nil.mp h]; simp; exact .nil
  | y :: xs, vs, 0, h => by
    obtain ⟨u, r, rfl, p, t⟩ := reps_cons.mp h
    exact t
  | y :: xs, vs, i + 1, h => by
    obtain ⟨u, r, rfl, p, t⟩ := reps_cons.mp h
    exact .cons p (Reps.eraseIdx i t)
theorem Reps.reverse : ∀ {xs : List D} {vs : List V}, Reps c w xs vs → Reps c w xs.reverse vs.reverse
  | [], vs, h => by rw [reps_nil.mp h]; exact .nil
  | y :: xs, vs, h => by
    obtain ⟨u, r, rfl, p, t⟩ := reps_cons.mp h
    rw [List.reverse_cons, List.reverse_cons]
    exact (Reps.reverse t).snoc p
theorem Reps.rep {xs : List D} {vs : List V} (h : Reps c w xs vs) : ∀ k : Nat, Reps c w (List.replicate k xs).flatten (List.replicate k vs).flatten
  | 0 => .nil
  | k + 1 => by rw [List.replicate_succ, List.replicate_succ, List.flatten_cons, List.flatten_cons]; exact h.append (Reps.rep h k)
theorem Reps.dropLast {xs : List D} {vs : List V} (h : Reps c w xs vs) : Reps c w xs.dropLast vs.dropLast := by
  rw [List.dropLast_eq_take, List.dropLast_eq_take, h.length]
  exact h.take _
theorem Reps.ints : ∀ {ns : List Int} {vs : List V}, Reps c w (ns.map D.int) vs → vs = ns.map V.int
  | [], vs, h => reps_nil.mp h
  | n :: ns, vs, h => by
    obtain ⟨u, r, rfl, p, t⟩ := reps_cons.mp h
    simp only [Rep] at p
    rw [p, Reps.ints t] <;> rfl
theorem Reps.ofInts : ∀ (ns : List Int), Reps c w (ns.map D.int) (ns.map V.int)
  | [] => .nil
  | n :: ns => .cons (by simp only [Rep]) (Reps.ofInts ns)
theorem Reps.bls : ∀ {ns : List Bool} {vs : List V}, Reps c w (ns.map D.bl) vs → vs = ns.map V.bl
  | [], vs, h => reps_nil.mp h
  | n :: ns, vs, h => by
    obtain ⟨u, r, rfl, p, t⟩ := reps_cons.mp h
    simp only [Rep] at p
    rw [p, Reps.bls t] <;> rfl
end

/-- at p stands what the cell tells -/
def CellR (c : Gm) (w : Wd) (H : Hp) (p : Addr) : Cell → Prop
  | .lst xs => ∃ vs, H p = some (.lst vs) ∧ Reps c w xs vs
  | .dK kvs => ∃ ys : List (Key × V), H p = some (.dK ys) ∧ ys.map (·.1) = kvs.map (·.1) ∧ Reps c w (kvs.map (·.2)) (ys.map (·.2))
  | .dT kvs => ∃ ys : List (List Key × V), H p = some (.dT ys) ∧ ys.map (·.1) = kvs.map (·.1) ∧ Reps c w (kvs.map (·.2)) (ys.map (·.2))
  | .ins C fs => ∃ (Ca dx : Addr) (ys : List (Str × V)), c.gl C = some Ca ∧ H p = some (.ins Ca dx ys) ∧ ys.map (·.1) = fs.map (·.1) ∧ Reps c w (fs.map (·.2)) (ys.map (·.2))
theorem CellR.mono {c : Gm} {w w' : Wd} {H H' : Hp} {p : Addr} (l : Le w w') (e : H' p = H p) : ∀ {x : Cell}, CellR c w H p x → CellR c w' H' p x
  | .lst xs, ⟨vs, h1, h2⟩ => ⟨vs, e.trans h1, Reps.mono l _ _ h2⟩
  | .dK kvs, ⟨ys, h1, h2, h3⟩ => ⟨ys, e.trans h1, h2, Reps.mono l _ _ h3⟩
  | .dT kvs, ⟨ys, h1, h2, h3⟩ => ⟨ys, e.trans h1, h2, Reps.mono l _ _ h3⟩
  | .ins C fs, ⟨Ca, dx, ys, h0, h1, h2, h3⟩ => ⟨Ca, dx, ys, h0, e.trans h1, h2, Reps.mono l _ _ h3⟩
theorem CellR.there {c : Gm} {w : Wd} {H : Hp} {p : Addr} : ∀ {x : Cell}, CellR c w H p x → ∃ o, H p = some o
  | .lst xs, ⟨vs, h1, h2⟩ => ⟨_, h1⟩
  | .dK kvs, ⟨ys, h1, h2, h3⟩ => ⟨_, h1⟩
  | .dT kvs, ⟨ys, h1, h2, h3⟩ => ⟨_, h1⟩
  | .ins C fs, ⟨Ca, dx, ys, h0, h1, h2, h3⟩ => ⟨_, h1⟩

abbrev FSt := L2.St
def slotV (σ : FSt) (i : Nat) (v : V) : Prop := σ[i]? = some (some v)

structure Sim (c : Gm) (w : Wd) (S : Sg) (σ : FSt) (H : Hp) : Prop where
  n : w.n = S.g.nx
  fz : ∀ a o, w.Hf a = some o → H a = some o
  cell : ∀ r x, S.g.cs r = some x → r < w.n ∧ CellR c w H (w.ro r) x ∧ w.Hf (w.ro r) = none
  inj : ∀ r r' x x', S.g.cs r = some x → S.g.cs r' = some x' → w.ro r = w.ro r' → r = r'
  len : S.sl.length = σ.length
  val : ∀ i d, S.sl[i]? = some (.val d) → ∃ v, slotV σ i v ∧ Rep c w d v
  own : ∀ i x, S.sl[i]? = some (.own x) → ∃ p, slotV σ i (.ref p) ∧ CellR c w H p x ∧ w.Hf p = none ∧ ∀ r y, S.g.cs r = some y → w.ro r ≠ p
  ownInj : ∀ i j x y p, S.sl[i]? = some (.own x) → S.sl[j]? = some (.own y) → slotV σ i (.ref p) → slotV σ j (.ref p) → i = j

/-- what may still change: the boxes and the own objects -/
def Mu (w : Wd) (S : Sg) (σ : FSt) (a : Addr) : Prop :=
  (∃ r x, S.g.cs r = some x ∧ w.ro r = a) ∨ ∃ i x, S.sl[i]? = some (.own x) ∧ slotV σ i (.ref a)

structure Step (w : Wd) (S : Sg) (σ : FSt) (H : Hp) (w' : Wd) (S' : Sg) (σ' : FSt) (H' : Hp) : Prop where
  le : Le w w'
  keep : ∀ a o, H a = some o → w.Hf a = none → ¬ Mu w S σ a → H' a = some o ∧ w'.Hf a = none ∧ ¬ Mu w' S' σ' a
  th : ∀ a, H' a = none → H a = none
theorem upd_th {H : Hp} {p : Addr} {o : HO} : ∀ a, upd H p o a = none → H a = none := fun a h => by
  by_cases e : a = p
  · rw [e, upd_same] at h; cases h
  · rwa [upd_ne e] at h
theorem Step.refl (w : Wd) (S : Sg) (σ : FSt) (H : Hp) : Step w S σ H w S σ H := ⟨.refl w, fun _ _ h1 h2 h3 => ⟨h1, h2, h3⟩, fun _ h => h⟩
theorem Step.trans {w w1 w2 : Wd} {S S1 S2 : Sg} {σ σ1 σ2 : FSt} {H H1 H2 : Hp} (a : Step w S σ H w1 S1 σ1 H1) (b : Step w1 S1 σ1 H1 w2 S2 σ2 H2) : Step w S σ H w2 S2 σ2 H2 :=
  ⟨a.le.trans b.le, fun x o h1 h2 h3 => let ⟨k1, k2, k3⟩ := a.keep x o h1 h2 h3; b.keep x o k1 k2 k3, fun x h => a.th x (b.th x h)⟩

section
variable {c : Gm} {w : Wd} {S : Sg} {σ : FSt} {H : Hp}
theorem Sim.mu (s : Sim c w S σ H) {a : Addr} (m : Mu w S σ a) : w.Hf a = none ∧ ∃ o, H a = some o := by
  rcases m with ⟨r, x, h1, h2⟩ | ⟨i, x, h1, h2⟩
  · obtain ⟨_, k2, k3⟩ := s.cell r x h1
    subst h2
    exact ⟨k3, k2.there⟩
  · obtain ⟨p, k1, k2, k3, _⟩ := s.own i x h1
    have e : some (some (V.ref p)) = some (some (V.ref a)) := k1.symm.trans h2
    cases e
    exact ⟨k3, k2.there⟩

/-- w with one more frozen object -/
def Wd.add (w : Wd) (p : Addr) (o : HO) : Wd := { w with Hf := upd w.Hf p o }
theorem Le.add {p : Addr} {o : HO} (h : w.Hf p = none) : Le w (w.add p o) :=
  ⟨fun a u e => by show upd w.Hf p o a = some u; rw [upd_ne (ne_of_none e h)]; exact e, Nat.le_refl _, fun _ _ => rfl⟩

theorem Sim.nofz (s : Sim c w S σ H) {p : Addr} (h : H p = none) : w.Hf p = none := by
  cases e : w.Hf p with
  | none => rfl
  | some o => rw [s.fz p o e] at h; cases h

/-- a new object, nobody's as yet -/
theorem Sim.laid (s : Sim c w S σ H) {p : Addr} (o : HO) (h : H p = none) : Sim c w S σ (upd H p o) where
  n := s.n
  fz := fun a u e => by rw [upd_ne (ne_of_none (s.fz a u e) h)]; exact s.fz a u e
  cell := fun r x e => by
    obtain ⟨k1, k2, k3⟩ := s.cell r x e
    obtain ⟨u, q⟩ := k2.there
    exact ⟨k1, k2.mono (.refl w) (upd_ne (ne_of_none q h)), k3⟩
  inj := s.inj
  len := s.len
  val := s.val
  own := fun i x e => by
    obtain ⟨q, k1, k2, k3, k4⟩ := s.own i x e
    obtain ⟨u, z⟩ := k2.there
    exact ⟨q, k1, k2.mono (.refl w) (upd_ne (ne_of_none z h)), k3, k4⟩
  ownInj := s.ownInj
theorem Step.laid (w : Wd) (S : Sg) (σ : FSt) {p : Addr} (o : HO) (h : H p = none) : Step w S σ H w S σ (upd H p o) :=
  ⟨.refl w, fun a u h1 h2 h3 => ⟨by rw [upd_ne (ne_of_none h1 h)]; exact h1, h2, h3⟩, upd_th⟩
/-- nobody's object is frozen -/
theorem Sim.freeze (s : Sim c w S σ H) {p : Addr} {o : HO} (h : H p = some o) (hf : w.Hf p = none) (hm : ¬ Mu w S σ p) : Sim c (w.add p o) S σ H where
  n := s.n
  fz := fun a u e => by
    have e' : upd w.Hf p o a = some u := e
    by_cases q : a = p
    · subst q; rw [upd_same] at e'; rw [h, e']
    · rw [upd_ne q] at e'; exact s.fz a u e'
  cell := fun r x e => by
    obtain ⟨k1, k2, k3⟩ := s.cell r x e
    refine ⟨k1, k2.mono (.add hf) rfl, ?_⟩
    show upd w.Hf p o (w.ro r) = none
    rw [upd_ne fun q => hm (.inl ⟨r, x, e, q⟩)]; exact k3
  inj := s.inj
  len := s.len
  val := fun i d e => by
    obtain ⟨v, k1, k2⟩ := s.val i d e
    exact ⟨v, k1, Rep.mono (.add hf) _ _ k2⟩
  own := fun i x e => by
    obtain ⟨q, k1, k2, k3, k4⟩ := s.own i x e
    refine ⟨q, k1, k2.mono (.add hf) rfl, ?_, k4⟩
    show upd w.Hf p o q = none
    rw [upd_ne fun z => hm (.inr ⟨i, x, e, by subst z; exact k1⟩)]; exact k3
  ownInj := s.ownInj
theorem mu_add {p : Addr} {o : HO} {a : Addr} : Mu (w.add p o) S σ a ↔ Mu w S σ a := Iff.rfl
/-- from ahead of p's making: the freezing is a step -/
theorem Step.freeze {w0 : Wd} {S0 : Sg} {σ0 : FSt} {H0 : Hp} {p : Addr} {o : HO} (a : Step w0 S0 σ0 H0 w S σ H) (h0 : H0 p = none) (hf : w.Hf p = none) : Step w0 S0 σ0 H0 (w.add p o) S σ H :=
  ⟨a.le.trans (.add hf), fun x u h1 h2 h3 => by
    obtain ⟨k1, k2, k3⟩ := a.keep x u h1 h2 h3
    refine ⟨k1, ?_, k3⟩
    show upd w.Hf p o x = none
    rw [upd_ne (ne_of_none h1 h0)]; exact k2, a.th⟩

/-- a box more -/
def Wd.bx (w : Wd) (p : Addr) : Wd := { w with n := w.n + 1, ro := fun r => if r = w.n then p else w.ro r }
def G.add (g : G) (x : Cell) : G := ⟨g.nx + 1, fun r => if r = g.nx then some x else g.cs r⟩
def G.put (g : G) (r : Nat) (x : Cell) : G := ⟨g.nx, fun q => if q = r then some x else g.cs q⟩
def G.del (g : G) (r : Nat) : G := ⟨g.nx, fun q => if q = r then none else g.cs q⟩
def Sg.up (S : Sg) (g : G) : Sg := ⟨S.sl, g⟩
def Sg.st (S : Sg) (i : Nat) (x : Slot) : Sg := ⟨S.sl.set i x, S.g⟩
theorem Le.bx {p : Addr} : Le w (w.bx p) :=
  ⟨fun _ _ e => e, Nat.le_succ _, fun r h => by show (if r = w.n then p else w.ro r) = w.ro r; rw [if_neg (Nat.ne_of_lt h)]⟩
theorem bx_new {p : Addr} : (w.bx p).ro w.n = p := if_pos rfl
theorem bx_old {p : Addr} {r : Nat} (h : r < w.n) : (w.bx p).ro r = w.ro r := if_neg (Nat.ne_of_lt h)
theorem add_new {g : G} {x : Cell} : (g.add x).cs g.nx = some x := if_pos rfl
theorem add_old {g : G} {x : Cell} {r : Nat} (h : r ≠ g.nx) : (g.add x).cs r = g.cs r := if_neg h
theorem Sim.box (s : Sim c w S σ H) {p : Addr} {x : Cell} (h : CellR c w H p x) (hf : w.Hf p = none) (hm : ¬ Mu w S σ p) : Sim c (w.bx p) (S.up (S.g.add x)) σ H where
  n := by show w.n + 1 = S.g.nx + 1; rw [s.n]
  fz := s.fz
  cell := fun r y e => by
    by_cases q : r = S.g.nx
    · have e' : (S.g.add x).cs r = some y := e
      rw [q, add_new] at e'; cases e'
      have er : (w.bx p).ro r = p := by rw [q, ← s.n]; exact bx_new
      rw [er]
      exact ⟨by rw [q, ← s.n]; exact Nat.lt_succ_self _, h.mono .bx rfl, hf⟩
    · have e' : S.g.cs r = some y := by have e2 : (S.g.add x).cs r = some y := e; rwa [add_old q] at e2
      obtain ⟨k1, k2, k3⟩ := s.cell r y e'
      rw [bx_old k1]
      exact ⟨Nat.lt_succ_of_lt k1, k2.mono .bx rfl, k3⟩
  inj := fun r r' y y' e e' z => by
    have f : ∀ {r y}, (S.g.add x).cs r = some y → (r = S.g.nx ∧ (w.bx p).ro r = p) ∨ (r < w.n ∧ S.g.cs r = some y ∧ (w.bx p).ro r = w.ro r) := fun {r y} e => by
      by_cases q : r = S.g.nx
      · exact .inl ⟨q, by rw [q, ← s.n]; exact bx_new⟩
      · rw [add_old q] at e
        obtain ⟨k1, k2, k3⟩ := s.cell r y e
        exact .inr ⟨k1, e, bx_old k1⟩
    rcases f e with ⟨q, a⟩ | ⟨q, a, b⟩ <;> rcases f e' with ⟨q', a'⟩ | ⟨q', a', b'⟩
    · rw [q, q']
    · rw [a, b'] at z
      exact absurd (.inl ⟨r', y', a', z.symm⟩) hm
    · rw [a', b] at z
      exact absurd (.inl ⟨r, y, a, z⟩) hm
    · rw [b, b'] at z
      exact s.inj r r' y y' a a' z
  len := s.len
  val := fun i d e => by
    obtain ⟨v, k1, k2⟩ := s.val i d e
    exact ⟨v, k1, Rep.mono .bx _ _ k2⟩
  own := fun i y e => by
    obtain ⟨q, k1, k2, k3, k4⟩ := s.own i y e
    refine ⟨q, k1, k2.mono .bx rfl, k3, fun r z ez => ?_⟩
    by_cases qq : r = S.g.nx
    · intro er
      have e2 : (w.bx p).ro r = p := by rw [qq, ← s.n]; exact bx_new
      rw [e2] at er
      exact hm (.inr ⟨i, y, e, by subst er; exact k1⟩)
    · have e' : S.g.cs r = some z := by have e2 : (S.g.add x).cs r = some z := ez; rwa [add_old qq] at e2
      obtain ⟨k5, _, _⟩ := s.cell r z e'
      rw [bx_old k5]
      exact k4 r z e'
  ownInj := s.ownInj
theorem mu_bx (s : Sim c w S σ H) {p a : Addr} {x : Cell} (h : Mu (w.bx p) (S.up (S.g.add x)) σ a) : a = p ∨ Mu w S σ a := by
  rcases h with ⟨r, y, e, z⟩ | ⟨i, y, e, z⟩
  · by_cases q : r = S.g.nx
    · left
      have e2 : (w.bx p).ro r = p := by rw [q, ← s.n]; exact bx_new
      exact z.symm.trans e2
    · have e' : S.g.cs r = some y := by have e2 : (S.g.add x).cs r = some y := e; rwa [add_old q] at e2
      obtain ⟨k1, _, _⟩ := s.cell r y e'
      rw [bx_old k1] at z
      exact .inr (.inl ⟨r, y, e', z⟩)
  · exact .inr (.inr ⟨i, y, e, z⟩)
theorem Step.box {w0 : Wd} {S0 : Sg} {σ0 : FSt} {H0 : Hp} {p : Addr} {x : Cell} (s : Sim c w S σ H) (a : Step w0 S0 σ0 H0 w S σ H) (h0 : H0 p = none) : Step w0 S0 σ0 H0 (w.bx p) (S.up (S.g.add x)) σ H :=
  ⟨a.le.trans .bx, fun b u h1 h2 h3 => by
    obtain ⟨k1, k2, k3⟩ := a.keep b u h1 h2 h3
    exact ⟨k1, k2, fun m => (mu_bx s m).elim (ne_of_none h1 h0) k3⟩, a.th⟩

/-- a box is written -/
theorem put_same {g : G} {r : Nat} {x : Cell} : (g.put r x).cs r = some x := if_pos rfl
theorem put_ne {g : G} {r q : Nat} {x : Cell} (h : q ≠ r) : (g.put r x).cs q = g.cs q := if_neg h
theorem Sim.put (s : Sim c w S σ H) {r : Nat} {x0 x : Cell} {o : HO} (h0 : S.g.cs r = some x0) (h : CellR c w (upd H (w.ro r) o) (w.ro r) x) : Sim c w (S.up (S.g.put r x)) σ (upd H (w.ro r) o) where
  n := s.n
  fz := fun a u e => by
    have hf := (s.cell r x0 h0).2.2
    rw [upd_ne fun z => by rw [z, hf] at e; cases e]; exact s.fz a u e
  cell := fun q y e => by
    obtain ⟨b1, b2, b3⟩ := s.cell r x0 h0
    by_cases z : q = r
    · subst z
      have e' : (S.g.put q x).cs q = some y := e
      rw [put_same] at e'; cases e'
      exact ⟨b1, h, b3⟩
    · have e' : S.g.cs q = some y := by have e2 : (S.g.put r x).cs q = some y := e; rwa [put_ne z] at e2
      obtain ⟨k1, k2, k3⟩ := s.cell q y e'
      exact ⟨k1, k2.mono (.refl w) (upd_ne fun a => z (s.inj q r y x0 e' h0 a)), k3⟩
  inj := fun q q' y y' e e' z => by
    have f : ∀ {q y}, (S.g.put r x).cs q = some y → ∃ y, S.g.cs q = some y := fun {q y} e => by
      by_cases z : q = r
      · exact ⟨x0, by rw [z]; exact h0⟩
      · rw [put_ne z] at e; exact ⟨y, e⟩
    obtain ⟨_, k⟩ := f e
    obtain ⟨_, k'⟩ := f e'
    exact s.inj q q' _ _ k k' z
  len := s.len
  val := s.val
  own := fun i y e => by
    obtain ⟨q, k1, k2, k3, k4⟩ := s.own i y e
    refine ⟨q, k1, k2.mono (.refl w) (upd_ne fun z => k4 r x0 h0 z.symm), k3, fun r' z ez => ?_⟩
    by_cases a : r' = r
    · rw [a]; exact k4 r x0 h0
    · have e' : S.g.cs r' = some z := by have e2 : (S.g.put r x).cs r' = some z := ez; rwa [put_ne a] at e2
      exact k4 r' z e'
  ownInj := s.ownInj
theorem Step.put (s : Sim c w S σ H) {r : Nat} {x0 x : Cell} {o : HO} (h0 : S.g.cs r = some x0) : Step w S σ H w (S.up (S.g.put r x)) σ (upd H (w.ro r) o) :=
  ⟨.refl w, fun a u h1 h2 h3 => by
    refine ⟨by rw [upd_ne fun z => h3 (.inl ⟨r, x0, h0, z.symm⟩)]; exact h1, h2, fun m => ?_⟩
    rcases m with ⟨q, y, e, z⟩ | m
    · by_cases k : q = r
      · exact h3 (.inl ⟨r, x0, h0, by rw [← k]; exact z⟩)
      · have e' : S.g.cs q = some y := by have e2 : (S.g.put r x).cs q = some y := e; rwa [put_ne k] at e2
        exact h3 (.inl ⟨q, y, e', z⟩)
    · exact h3 (.inr m), upd_th⟩

/-- a box is let go: nobody's -/
theorem del_cs {g : G} {r q : Nat} {y : Cell} (e : (g.del r).cs q = some y) : q ≠ r ∧ g.cs q = some y := by
  have e2 : (if q = r then none else g.cs q) = some y := e
  by_cases z : q = r
  · rw [if_pos z] at e2; cases e2
  · rw [if_neg z] at e2; exact ⟨z, e2⟩
theorem Sim.del (s : Sim c w S σ H) (r : Nat) : Sim c w (S.up (S.g.del r)) σ H where
  n := s.n
  fz := s.fz
  cell := fun q y e => s.cell q y (del_cs e).2
  inj := fun q q' y y' e e' z => s.inj q q' y y' (del_cs e).2 (del_cs e').2 z
  len := s.len
  val := s.val
  own := fun i y e => by
    obtain ⟨q, k1, k2, k3, k4⟩ := s.own i y e
    exact ⟨q, k1, k2, k3, fun r' z ez => k4 r' z (del_cs ez).2⟩
  ownInj := s.ownInj
theorem mu_del (s : Sim c w S σ H) {r : Nat} {x : Cell} (h : S.g.cs r = some x) : ¬ Mu w (S.up (S.g.del r)) σ (w.ro r) := by
  rintro (⟨q, y, e, z⟩ | ⟨i, y, e, z⟩)
  · obtain ⟨n, e'⟩ := del_cs e
    exact n (s.inj q r y x e' h z)
  · obtain ⟨q, k1, k2, k3, k4⟩ := s.own i y e
    have e2 : some (some (V.ref q)) = some (some (V.ref (w.ro r))) := k1.symm.trans z
    cases e2
    exact k4 r x h rfl
theorem mu_del_sub {r : Nat} {a : Addr} (m : Mu w (S.up (S.g.del r)) σ a) : Mu w S σ a := by
  rcases m with ⟨q, y, e, z⟩ | m
  · exact .inl ⟨q, y, (del_cs e).2, z⟩
  · exact .inr m
/-- a box is frozen -/
theorem Sim.frz (s : Sim c w S σ H) {r : Nat} {xs : List D} {vs : List V} (h : S.g.cs r = some (.lst xs)) (hv : H (w.ro r) = some (.lst vs)) : Sim c (w.add (w.ro r) (.lst vs)) (S.up (S.g.del r)) σ H :=
  (s.del r).freeze hv (s.cell r _ h).2.2 (mu_del s h)
theorem Step.frz (s : Sim c w S σ H) {r : Nat} {x : Cell} {o : HO} (h : S.g.cs r = some x) : Step w S σ H (w.add (w.ro r) o) (S.up (S.g.del r)) σ H :=
  ⟨.add (s.cell r _ h).2.2, fun a u h1 h2 h3 => by
    refine ⟨h1, ?_, fun m => h3 (mu_del_sub m)⟩
    show upd w.Hf (w.ro r) o a = none
    rw [upd_ne fun z => h3 (.inl ⟨r, x, h, z.symm⟩)]; exact h2, fun _ h => h⟩

/-! ### slots -/
theorem set_get {α : Type} {l : List α} {i j : Nat} {x y : α} (h : (l.set i x)[j]? = some y) : (j = i ∧ y = x) ∨ (j ≠ i ∧ l[j]? = some y) := by
  by_cases e : j = i
  · subst e
    rw [List.getElem?_set] at h
    split at h
    · split at h
      · cases h; exact .inl ⟨rfl, rfl⟩
      · cases h
    · rename_i z; exact absurd rfl z
  · rw [List.getElem?_set_ne (Ne.symm e)] at h
    exact .inr ⟨e, h⟩
theorem slotV_set {i : Nat} {v : V} (h : i < σ.length) : slotV (σ.set i (some v)) i v := by
  show (σ.set i (some v))[i]? = some (some v)
  rw [List.getElem?_set_self h]
theorem slotV_ne {i j : Nat} {v : V} {x : Option V} (e : j ≠ i) : slotV (σ.set i x) j v ↔ slotV σ j v := by
  show (σ.set i x)[j]? = some (some v) ↔ σ[j]? = some (some v)
  rw [List.getElem?_set_ne (Ne.symm e)]
/-- slot i gets a value -/
theorem Sim.setVal (s : Sim c w S σ H) {i : Nat} {d : D} {v : V} (r : Rep c w d v) : Sim c w (S.st i (.val d)) (σ.set i (some v)) H where
  n := s.n
  fz := s.fz
  cell := s.cell
  inj := s.inj
  len := by show (S.sl.set i _).length = (σ.set i _).length; rw [List.length_set, List.length_set]; exact s.len
  val := fun j d' e => by
    rcases set_get e with ⟨e1, e2⟩ | ⟨e1, e2⟩
    · cases e2
      have hi : j < σ.length := by
        rw [← s.len]
        have := (List.getElem?_eq_some_iff.mp e).1
        rwa [show (S.st i (.val d)).sl.length = S.sl.length from List.length_set] at this
      subst e1
      exact ⟨v, slotV_set hi, r⟩
    · obtain ⟨u, k1, k2⟩ := s.val j d' e2
      exact ⟨u, (slotV_ne e1).mpr k1, k2⟩
  own := fun j x e => by
    rcases set_get e with ⟨e1, e2⟩ | ⟨e1, e2⟩
    · cases e2
    · obtain ⟨p, k1, k2⟩ := s.own j x e2
      exact ⟨p, (slotV_ne e1).mpr k1, k2⟩
  ownInj := fun j j' x y p e e' k k' => by
    rcases set_get e with ⟨e1, e2⟩ | ⟨e1, e2⟩
    · cases e2
    · rcases set_get e' with ⟨e1', e2'⟩ | ⟨e1', e2'⟩
      · cases e2'
      · exact s.ownInj j j' x y p e2 e2' ((slotV_ne e1).mp k) ((slotV_ne e1').mp k')
theorem mu_setVal {i : Nat} {d : D} {v : V} {a : Addr} (m : Mu w (S.st i (.val d)) (σ.set i (some v)) a) : Mu w S σ a := by
  rcases m with m | ⟨j, x, e, k⟩
  · exact .inl m
  · rcases set_get e with ⟨e1, e2⟩ | ⟨e1, e2⟩
    · cases e2
    · exact .inr ⟨j, x, e2, (slotV_ne e1).mp k⟩
theorem Step.setVal (w : Wd) (S : Sg) (σ : FSt) (H : Hp) {i : Nat} {d : D} {v : V} : Step w S σ H w (S.st i (.val d)) (σ.set i (some v)) H :=
  ⟨.refl w, fun a u h1 h2 h3 => ⟨h1, h2, fun m => h3 (mu_setVal m)⟩, fun _ h => h⟩
/-- slot i gets an object of its own -/
theorem Sim.setOwn (s : Sim c w S σ H) {i : Nat} {x : Cell} {p : Addr} (h : CellR c w H p x) (hf : w.Hf p = none) (hm : ¬ Mu w S σ p) : Sim c w (S.st i (.own x)) (σ.set i (some (.ref p))) H where
  n := s.n
  fz := s.fz
  cell := s.cell
  inj := s.inj
  len := by show (S.sl.set i _).length = (σ.set i _).length; rw [List.length_set, List.length_set]; exact s.len
  val := fun j d' e => by
    rcases set_get e with ⟨e1, e2⟩ | ⟨e1, e2⟩
    · cases e2
    · obtain ⟨u, k1, k2⟩ := s.val j d' e2
      exact ⟨u, (slotV_ne e1).mpr k1, k2⟩
  own := fun j y e => by
    rcases set_get e with ⟨e1, e2⟩ | ⟨e1, e2⟩
    · cases e2
      have hi : j < σ.length := by
        rw [← s.len]
        have := (List.getElem?_eq_some_iff.mp e).1
        rwa [show (S.st i (.own x)).sl.length = S.sl.length from List.length_set] at this
      subst e1
      exact ⟨p, slotV_set hi, h, hf, fun r y e z => hm (.inl ⟨r, y, e, z⟩)⟩
    · obtain ⟨q, k1, k2⟩ := s.own j y e2
      exact ⟨q, (slotV_ne e1).mpr k1, k2⟩
  ownInj := fun j j' y y' q e e' k k' => by
    have at_ : ∀ {j : Nat} {q : Addr}, j = i → slotV (σ.set i (some (.ref p))) j (.ref q) → q = p := fun {j q} e k => by
      subst e
      have k2 : (σ.set j (some (.ref p)))[j]? = some (some (.ref q)) := k
      have hi : j < σ.length := by
        have := (List.getElem?_eq_some_iff.mp k2).1
        rwa [List.length_set] at this
      rw [List.getElem?_set_self hi] at k2
      cases k2; rfl
    rcases set_get e with ⟨e1, e2⟩ | ⟨e1, e2⟩
    · rcases set_get e' with ⟨e1', e2'⟩ | ⟨e1', e2'⟩
      · rw [e1, e1']
      · have z := at_ e1 k
        subst z
        exact absurd (.inr ⟨j', y', e2', (slotV_ne e1').mp k'⟩) hm
    · rcases set_get e' with ⟨e1', e2'⟩ | ⟨e1', e2'⟩
      · have z := at_ e1' k'
        subst z
        exact absurd (.inr ⟨j, y, e2, (slotV_ne e1).mp k⟩) hm
      · exact s.ownInj j j' y y' q e2 e2' ((slotV_ne e1).mp k) ((slotV_ne e1').mp k')
theorem Step.setOwn {w0 : Wd} {S0 : Sg} {σ0 : FSt} {H0 : Hp} {i : Nat} {x : Cell} {p : Addr} (a : Step w0 S0 σ0 H0 w S σ H) (h0 : H0 p = none) : Step w0 S0 σ0 H0 w (S.st i (.own x)) (σ.set i (some (.ref p))) H :=
  ⟨a.le, fun b u h1 h2 h3 => by
    obtain ⟨k1, k2, k3⟩ := a.keep b u h1 h2 h3
    refine ⟨k1, k2, fun m => ?_⟩
    rcases m with m | ⟨j, y, e, k⟩
    · exact k3 (.inl m)
    · rcases set_get e with ⟨e1, e2⟩ | ⟨e1, e2⟩
      · subst e1
        have k4 : (σ.set j (some (.ref p)))[j]? = some (some (.ref b)) := k
        have hi : j < σ.length := by
          have := (List.getElem?_eq_some_iff.mp k4).1
          rwa [List.length_set] at this
        rw [List.getElem?_set_self hi] at k4
        cases k4
        rw [h0] at h1; cases h1
      · exact k3 (.inr ⟨j, y, e2, (slotV_ne e1).mp k⟩), a.th⟩
/-- an own object is written -/
theorem Sim.putOwn (s : Sim c w S σ H) {i : Nat} {x0 x : Cell} {p : Addr} {o : HO} (h0 : S.sl[i]? = some (.own x0)) (hp : slotV σ i (.ref p)) (h : CellR c w (upd H p o) p x) : Sim c w (S.st i (.own x)) σ (upd H p o) := by
  obtain ⟨p', b1, b2, b3, b4⟩ := s.own i x0 h0
  have ep : p' = p := by
    have e2 : some (some (V.ref p')) = some (some (V.ref p)) := b1.symm.trans hp
    cases e2; rfl
  subst ep
  exact {
    n := s.n
    fz := fun a u e => by rw [upd_ne fun z => by rw [z, b3] at e; cases e]; exact s.fz a u e
    cell := fun q y e => by
      obtain ⟨k1, k2, k3⟩ := s.cell q y e
      exact ⟨k1, k2.mono (.refl w) (upd_ne (b4 q y e)), k3⟩
    inj := s.inj
    len := by show (S.sl.set i _).length = σ.length; rw [List.length_set]; exact s.len
    val := fun j d e => by
      rcases set_get e with ⟨e1, e2⟩ | ⟨e1, e2⟩
      · cases e2
      · exact s.val j d e2
    own := fun j y e => by
      rcases set_get e with ⟨e1, e2⟩ | ⟨e1, e2⟩
      · cases e2
        subst e1
        exact ⟨p', hp, h, b3, b4⟩
      · obtain ⟨q, k1, k2, k3, k4⟩ := s.own j y e2
        exact ⟨q, k1, k2.mono (.refl w) (upd_ne fun z => e1 (s.ownInj j i y x0 p' e2 h0 (by rw [← z]; exact k1) hp)), k3, k4⟩
    ownInj := fun j j' y y' q e e' k k' => by
      have f : ∀ {j : Nat} {y : Cell}, (S.sl.set i (Slot.own x))[j]? = some (Slot.own y) → ∃ y, S.sl[j]? = some (Slot.own y) := fun {j y} e => by
        rcases set_get e with ⟨e1, e2⟩ | ⟨e1, e2⟩
        · exact ⟨x0, by rw [e1]; exact h0⟩
        · exact ⟨y, e2⟩
      obtain ⟨_, a⟩ := f e
      obtain ⟨_, a'⟩ := f e'
      exact s.ownInj j j' _ _ q a a' k k' }
theorem Step.putOwn {i : Nat} {x0 x : Cell} {p : Addr} {o : HO} (h0 : S.sl[i]? = some (.own x0)) (hp : slotV σ i (.ref p)) : Step w S σ H w (S.st i (.own x)) σ (upd H p o) :=
  ⟨.refl w, fun a u h1 h2 h3 => by
    refine ⟨by rw [upd_ne fun z => h3 (.inr ⟨i, x0, h0, by rw [z]; exact hp⟩)]; exact h1, h2, fun m => ?_⟩
    rcases m with m | ⟨j, y, e, k⟩
    · exact h3 (.inl m)
    · rcases set_get e with ⟨e1, e2⟩ | ⟨e1, e2⟩
      · exact h3 (.inr ⟨i, x0, h0, by rw [← e1]; exact k⟩)
      · exact h3 (.inr ⟨j, y, e2, k⟩), upd_th⟩
/-- an own list is frozen: the slot's value from now on -/
theorem Sim.frzOwn (s : Sim c w S σ H) {i : Nat} {xs : List D} {vs : List V} {p : Addr} (h0 : S.sl[i]? = some (.own (.lst xs))) (hp : slotV σ i (.ref p)) (hv : H p = some (.lst vs)) (hr : Reps c w xs vs) : Sim c (w.add p (.lst vs)) (S.st i (.val (.lst xs))) σ H := by
  obtain ⟨p', b1, b2, b3, b4⟩ := s.own i _ h0
  have ep : p' = p := by
    have e2 : some (some (V.ref p')) = some (some (V.ref p)) := b1.symm.trans hp
    cases e2; rfl
  subst ep
  have rep : Rep c (w.add p' (.lst vs)) (.lst xs) (.ref p') := by
    simp only [Rep]
    exact ⟨p', vs, rfl, upd_same, Reps.mono (.add b3) _ _ hr⟩
  exact {
    n := s.n
    fz := fun a u e => by
      have e' : upd w.Hf p' _ a = some u := e
      by_cases q : a = p'
      · subst q; rw [upd_same] at e'; rw [hv, e']
      · rw [upd_ne q] at e'; exact s.fz a u e'
    cell := fun r x e => by
      obtain ⟨k1, k2, k3⟩ := s.cell r x e
      refine ⟨k1, k2.mono (.add b3) rfl, ?_⟩
      show upd w.Hf p' _ (w.ro r) = none
      rw [upd_ne (b4 r x e)]; exact k3
    inj := s.inj
    len := by show (S.sl.set i _).length = σ.length; rw [List.length_set]; exact s.len
    val := fun j d e => by
      rcases set_get e with ⟨e1, e2⟩ | ⟨e1, e2⟩
      · cases e2
        subst e1
        exact ⟨_, hp, rep⟩
      · obtain ⟨v, k1, k2⟩ := s.val j d e2
        exact ⟨v, k1, Rep.mono (.add b3) _ _ k2⟩
    own := fun j y e => by
      rcases set_get e with ⟨e1, e2⟩ | ⟨e1, e2⟩
      · cases e2
      · obtain ⟨q, k1, k2, k3, k4⟩ := s.own j y e2
        refine ⟨q, k1, k2.mono (.add b3) rfl, ?_, k4⟩
        show upd w.Hf p' _ q = none
        rw [upd_ne fun z => e1 (s.ownInj j i y _ p' e2 h0 (by rw [← z]; exact k1) hp)]; exact k3
    ownInj := fun j j' y y' q e e' k k' => by
      rcases set_get e with ⟨e1, e2⟩ | ⟨e1, e2⟩
      · cases e2
      · rcases set_get e' with ⟨e1', e2'⟩ | ⟨e1', e2'⟩
        · cases e2'
        · exact s.ownInj j j' y y' q e2 e2' k k' }
theorem Step.frzOwn (s : Sim c w S σ H) {i : Nat} {x : Cell} {d : D} {p : Addr} {o : HO} (h0 : S.sl[i]? = some (.own x)) (hp : slotV σ i (.ref p)) : Step w S σ H (w.add p o) (S.st i (.val d)) σ H := by
  obtain ⟨p', b1, b2, b3, b4⟩ := s.own i _ h0
  have ep : p' = p := by
    have e2 : some (some (V.ref p')) = some (some (V.ref p)) := b1.symm.trans hp
    cases e2; rfl
  subst ep
  refine ⟨.add b3, fun a u h1 h2 h3 => ⟨h1, ?_, fun m => ?_⟩, fun _ h => h⟩
  · show upd w.Hf p' o a = none
    rw [upd_ne fun z => h3 (.inr ⟨i, x, h0, by rw [z]; exact hp⟩)]; exact h2
  · rcases m with m | ⟨j, y, e, k⟩
    · exact h3 (.inl m)
    · rcases set_get e with ⟨e1, e2⟩ | ⟨e1, e2⟩
      · cases e2
      · exact h3 (.inr ⟨j, y, e2, k⟩)
end
end Mm
end

section
/-! MmB: readings by what is run; the rules of the plain expressions and statements. -/
namespace Mm
open PySem L2

def gmOf (K : PySem.W.Frag) (mg : Str → Option Value) : Gm := ⟨K, fun x => match mg x with | some (.ref a) => some a | _ => none⟩
abbrev cg (X : Cx) : Gm := gmOf X.K X.mg

/-- an exception is let out -/
def ExcP (c : Gm) (E : XK) (C : Str) (fs : List (Str × D)) (S' : Sg) (w : Wd) (S : Sg) (σ : FSt) (H : Hp) : Prop :=
  ∀ w' σ' H' Ca dx ys, Step w S σ H w' S' σ' H' → Sim c w' S' σ' H' → c.gl C = some Ca → H' dx = some (.xd ys) → ys.map (·.1) = fs.map (·.1) → Reps c w' (fs.map (·.2)) (ys.map (·.2)) → E (.ref Ca) (some dx) H'
/-- what is wanted of a run -/
def Po {α : Type} (c : Gm) (E : XK) (r : R α) (w : Wd) (S : Sg) (σ : FSt) (H : Hp) (K : α → Wd → Sg → Hp → Prop) : Prop := match r with
  | .ok a S' => ∀ w' H', Step w S σ H w' S' σ H' → Sim c w' S' σ H' → K a w' S' H'
  | .exc C fs S' => ExcP c E C fs S' w S σ H
  | .stuck => False

section
variable {c : Gm} {E : XK} {α β : Type}
theorem Po.rebase {r : R α} {w w1 : Wd} {S S1 : Sg} {σ : FSt} {H H1 : Hp} {K : α → Wd → Sg → Hp → Prop} (st : Step w S σ H w1 S1 σ H1) (h : Po c E r w S σ H K) : Po c E r w1 S1 σ H1 K := by
  cases r with
  | ok a S' => exact fun w' H' s1 sm => h w' H' (st.trans s1) sm
  | exc C fs S' => exact fun w' σ' H' Ca dx ys s1 sm => h w' σ' H' Ca dx ys (st.trans s1) sm
  | stuck => exact h
theorem Po.imp {r : R α} {w : Wd} {S : Sg} {σ : FSt} {H : Hp} {K K' : α → Wd → Sg → Hp → Prop} (h : Po c E r w S σ H K)
    (k : ∀ a w' S' H', Step w S σ H w' S' σ H' → Sim c w' S' σ H' → K a w' S' H' → K' a w' S' H') : Po c E r w S σ H K' := by
  cases r with
  | ok a S' => exact fun w' H' s1 sm => k a w' S' H' s1 sm (h w' H' s1 sm)
  | exc C fs S' => exact h
  | stuck => exact h
theorem Po.bind {m : R α} {k : α → Sg → R β} {w : Wd} {S : Sg} {σ : FSt} {H : Hp} {K : β → Wd → Sg → Hp → Prop} (h : Po c E (m.bind k) w S σ H K) :
    Po c E m w S σ H fun a w1 S1 H1 => Po c E (k a S1) w1 S1 σ H1 K := by
  cases m with
  | ok a S' => exact fun w' H' s1 sm => Po.rebase s1 h
  | exc C fs S' => exact h
  | stuck => exact h
/-- both: the run's part, then what is wanted of it -/
theorem Po.two {m : R α} {k : α → Sg → R β} {w : Wd} {S : Sg} {σ : FSt} {H : Hp} {K : β → Wd → Sg → Hp → Prop} {K' : α → Wd → Sg → Hp → Prop} (h : Po c E (m.bind k) w S σ H K)
    (q : ∀ a w1 S1 H1, Step w S σ H w1 S1 σ H1 → Sim c w1 S1 σ H1 → Po c E (k a S1) w1 S1 σ H1 K → K' a w1 S1 H1) : Po c E m w S σ H K' := h.bind.imp q
end

def KD (c : Gm) (Q : VK) : D → Wd → Sg → Hp → Prop := fun d w' _ H' => ∀ v, Rep c w' d v → Q v H'
/-- a run that gives a value; a new object; a truth value; values; what stands in a list or tuple; a place -/
def TM (c : Gm) (E : XK) (m : M D) : TE := fun σ H Q => ∃ w S, Sim c w S σ H ∧ Po c E (m S) w S σ H (KD c Q)
def TC (c : Gm) (E : XK) (m : M Cell) : TE := fun σ H Q => ∃ w S, Sim c w S σ H ∧ Po c E (m S) w S σ H fun x w' S' H' => ∀ p, H p = none → CellR c w' H' p x → w'.Hf p = none → ¬ Mu w' S' σ p → Q (.ref p) H'
def TB (c : Gm) (E : XK) (m : M Bool) : TT := fun σ H Q => ∃ w S, Sim c w S σ H ∧ Po c E (m S) w S σ H fun b _ _ H' => Q b H'
def TL (c : Gm) (E : XK) (m : M (List D)) : TA := fun σ H Q => ∃ w S, Sim c w S σ H ∧ Po c E (m S) w S σ H fun ds w' _ H' => ∀ vs, Reps c w' ds vs → Q vs H'
abbrev Vw := Bool × List D
def VwR (H : Hp) (b : Bool) (a : Addr) (vs : List V) : Prop := if b = true then H a = some (.lst vs) else H a = some (.tup vs)
/-- a handle: a value, or a slot that is looked into later -/
inductive Hd where
  | d (x : D) | sl (i : Nat)
def HdR (c : Gm) (w : Wd) (σ : FSt) (v : V) : Hd → Prop
  | .d x => Rep c w x v
  | .sl i => slotV σ i v
def TH (c : Gm) (E : XK) (m : M Hd) : TE := fun σ H Q => ∃ w S, Sim c w S σ H ∧ Po c E (m S) w S σ H fun h w' _ H' => ∀ v, HdR c w' σ v h → Q v H'
inductive Pl where
  | sl (i : Nat) | bx (r : Nat)
def PlAt (w : Wd) (σ : FSt) (p : Addr) : Pl → Prop
  | .sl i => slotV σ i (.ref p)
  | .bx r => r < w.n ∧ w.ro r = p
def TP (c : Gm) (E : XK) (m : M Pl) : TE := fun σ H Q => ∃ w S, Sim c w S σ H ∧ Po c E (m S) w S σ H fun P w' _ H' => ∀ p, PlAt w' σ p P → Q (.ref p) H'

theorem PE.weak {X : Cx} {e : Expr} {t t' : TE} (h : PE X e t) (k : ∀ σ H Q, t' σ H Q → t σ H Q) : PE X e t' := ⟨fun pins s σ H Q I q => h.run pins s σ H Q I (k σ H Q q)⟩
theorem PT.weak {X : Cx} {e : Expr} {t t' : TT} (h : PT X e t) (k : ∀ σ H Q, t' σ H Q → t σ H Q) : PT X e t' := ⟨fun pins s σ H Q I q => h.run pins s σ H Q I (k σ H Q q)⟩
theorem PW.weak {X : Cx} {e : Expr} {t t' : TT} (h : PW X e t) (k : ∀ σ H Q, t' σ H Q → t σ H Q) : PW X e t' := ⟨fun wh pins s σ H Q I q => h.run wh pins s σ H Q I (k σ H Q q)⟩
theorem PA.weak {X : Cx} {e : List Expr} {t t' : TA} (h : PA X e t) (k : ∀ σ H Q, t' σ H Q → t σ H Q) : PA X e t' := ⟨fun po pins s σ H Q I q => h.run po pins s σ H Q I (k σ H Q q)⟩
theorem PS.weak {X : Cx} {e : Stmt} {t t' : TS} (h : PS X e t) (k : ∀ D σ H, t' D σ H → t D σ H) : PS X e t' := ⟨fun pins s σ H D I q => h.run pins s σ H D I (k D σ H q)⟩
theorem PSs.weak {X : Cx} {e : List Stmt} {t t' : TS} (h : PSs X e t) (k : ∀ D σ H, t' D σ H → t D σ H) : PSs X e t' := ⟨fun pins s σ H D I q => h.run pins s σ H D I (k D σ H q)⟩
theorem PI.weak {X : Cx} {tg e : Expr} {t t' : TI} (h : PI X tg e t) (k : ∀ σ H R, t' σ H R → t σ H R) : PI X tg e t' := ⟨fun pins s σ H R I q => h.run pins s σ H R I (k σ H R q)⟩

/-! ### what is run: the parts -/
/-- a name's value; a list of its own is frozen by that -/
def rd (i : Nat) : M D := fun S => match S.sl[i]? with
  | some (.val d) => .ok d S
  | some (.own (.lst xs)) => .ok (.lst xs) (S.st i (.val (.lst xs)))
  | _ => .stuck
/-- what stands in a sequence -/
def vwD (S : Sg) : D → Option Vw
  | .lst xs => some (true, xs)
  | .tup xs => some (false, xs)
  | .box r => match S.g.cs r with | some (.lst xs) => some (true, xs) | _ => none
  | _ => none
def optM {α : Type} (o : Option α) : M α := fun S => match o with | some a => .ok a S | none => .stuck
def vwH (S : Sg) : Hd → Option Vw
  | .d x => vwD S x
  | .sl i => match S.sl[i]? with
    | some (.val d) => vwD S d
    | some (.own (.lst xs)) => some (true, xs)
    | _ => none
def hdE (m : M D) : M Hd := bd m fun d => ret (.d d)
def hdN (i : Nat) : M Hd := fun S => match S.sl[i]? with
  | some (.val d) => .ok (.d d) S
  | some (.own (.lst _)) => .ok (.sl i) S
  | _ => .stuck
/-- what stands in it now -/
def see (h : Hd) : M Vw := fun S => optM (vwH S h) S
def plN (i : Nat) : M Pl := fun S => match S.sl[i]? with
  | some (.val (.box r)) => .ok (.bx r) S
  | some (.own _) => .ok (.sl i) S
  | _ => .stuck
def plE (m : M D) : M Pl := fun S => (m S).bind fun d S1 => match d with | .box r => .ok (.bx r) S1 | _ => .stuck
def getP (P : Pl) (S : Sg) : Option Cell := match P with
  | .sl i => match S.sl[i]? with | some (.own x) => some x | _ => none
  | .bx r => S.g.cs r
def putP (P : Pl) (x : Cell) (S : Sg) : Sg := match P with
  | .sl i => S.st i (.own x)
  | .bx r => S.up (S.g.put r x)
def frzC : Cell → M D
  | .lst xs => ret (.lst xs)
  | _ => nope
def boxC (x : Cell) : M D := fun S => .ok (.box S.g.nx) (S.up (S.g.add x))
/-- a box is frozen -/
def frzD : D → M D
  | .box r => fun S => match S.g.cs r with | some (.lst xs) => .ok (.lst xs) (S.up (S.g.del r)) | _ => .stuck
  | d => ret d

section
variable {c : Gm} {E : XK} {w : Wd} {S : Sg} {σ : FSt} {H : Hp}
theorem PlAt.mono {w' : Wd} {p : Addr} (l : Le w w') : ∀ {P : Pl}, PlAt w σ p P → PlAt w' σ p P
  | .sl i, h => h
  | .bx r, h => ⟨Nat.lt_of_lt_of_le h.1 l.n, (l.ro r h.1).trans h.2⟩
theorem Sim.getP (s : Sim c w S σ H) {p : Addr} {x : Cell} : ∀ {P : Pl}, PlAt w σ p P → Mm.getP P S = some x → CellR c w H p x ∧ w.Hf p = none
  | .sl i, h, e => by
    have e2 : (match S.sl[i]? with | some (.own x) => some x | _ => none) = some x := e
    split at e2
    · rename_i x' hx
      cases e2
      obtain ⟨q, k1, k2, k3, _⟩ := s.own i _ hx
      have z : some (some (V.ref q)) = some (some (V.ref p)) := k1.symm.trans h
      cases z
      exact ⟨k2, k3⟩
    · cases e2
  | .bx r, h, e => by
    obtain ⟨k1, k2, k3⟩ := s.cell r x e
    rw [h.2] at k2 k3
    exact ⟨k2, k3⟩
theorem getP_sl {i : Nat} {x : Cell} (e : Mm.getP (.sl i) S = some x) : S.sl[i]? = some (.own x) := by
  have e2 : (match S.sl[i]? with | some (.own x) => some x | _ => none) = some x := e
  split at e2
  · rename_i x' hx; cases e2; exact hx
  · cases e2
theorem Sim.putP (s : Sim c w S σ H) {p : Addr} {x0 x : Cell} {o : HO} : ∀ {P : Pl}, PlAt w σ p P → Mm.getP P S = some x0 → CellR c w (upd H p o) p x → Sim c w (Mm.putP P x S) σ (upd H p o)
  | .sl i, h, e, k => s.putOwn (getP_sl e) h k
  | .bx r, h, e, k => by
    have h2 := h.2
    subst h2
    exact s.put e k
theorem Step.putP (s : Sim c w S σ H) {p : Addr} {x0 x : Cell} {o : HO} : ∀ {P : Pl}, PlAt w σ p P → Mm.getP P S = some x0 → Step w S σ H w (Mm.putP P x S) σ (upd H p o)
  | .sl i, h, e => Step.putOwn (getP_sl e) h
  | .bx r, h, e => by
    have h2 := h.2
    subst h2
    exact Step.put s e
theorem vwR_of {d : D} {x : Vw} {v : V} (s : Sim c w S σ H) (r : Rep c w d v) (e : vwD S d = some x) : ∃ a vs, v = .ref a ∧ VwR H x.1 a vs ∧ Reps c w x.2 vs := by
  cases d with
  | lst xs =>
    simp only [vwD] at e; cases e
    simp only [Rep] at r
    obtain ⟨a, vs, rfl, h1, h2⟩ := r
    exact ⟨a, vs, rfl, s.fz _ _ h1, h2⟩
  | tup xs =>
    simp only [vwD] at e; cases e
    simp only [Rep] at r
    obtain ⟨a, vs, rfl, h1, h2⟩ := r
    exact ⟨a, vs, rfl, s.fz _ _ h1, h2⟩
  | box q =>
    simp only [vwD] at e
    split at e
    · rename_i xs hx
      cases e
      simp only [Rep] at r
      obtain ⟨h1, rfl⟩ := r
      obtain ⟨_, ⟨vs, k2, k3⟩, _⟩ := s.cell q _ hx
      exact ⟨_, vs, rfl, k2, k3⟩
    · cases e
  | _ => simp only [vwD] at e; cases e
end

section
variable {c : Gm} {E : XK} {w : Wd} {S : Sg} {σ : FSt} {H : Hp}
theorem HdR.mono {w' : Wd} {v : V} (l : Le w w') : ∀ {h : Hd}, HdR c w σ v h → HdR c w' σ v h
  | .d x, h => Rep.mono l x v h
  | .sl i, h => h
theorem vwH_of {h : Hd} {x : Vw} {v : V} (s : Sim c w S σ H) (r : HdR c w σ v h) (e : vwH S h = some x) : ∃ a vs, v = .ref a ∧ VwR H x.1 a vs ∧ Reps c w x.2 vs := by
  cases h with
  | d y => exact vwR_of s r e
  | sl i =>
    unfold vwH at e
    simp only at e
    split at e
    · rename_i d hd
      obtain ⟨v', h1, h2⟩ := s.val i d hd
      have r' : slotV σ i v := r
      have z : some (some v') = some (some v) := h1.symm.trans r'
      cases z
      exact vwR_of s h2 e
    · rename_i xs hx
      cases e
      obtain ⟨p, k1, ⟨vs, k2, k3⟩, k4, k5⟩ := s.own i _ hx
      have r' : slotV σ i v := r
      have z : some (some (V.ref p)) = some (some v) := k1.symm.trans r'
      cases z
      exact ⟨p, vs, rfl, k2, k3⟩
    · cases e
/-- a view is asked and there is one -/
theorem Po.see {h : Hd} {v : V} {α : Type} {k : Vw → Sg → R α} {K : α → Wd → Sg → Hp → Prop} (s : Sim c w S σ H) (r : HdR c w σ v h) (po : Po c E ((Mm.see h S).bind k) w S σ H K) :
    ∃ b ds a vs, vwH S h = some (b, ds) ∧ v = .ref a ∧ VwR H b a vs ∧ Reps c w ds vs ∧ Po c E (k (b, ds) S) w S σ H K := by
  unfold Mm.see optM at po
  cases e : vwH S h with
  | none => rw [e] at po; exact po.elim
  | some x =>
    rw [e] at po
    obtain ⟨b, ds⟩ := x
    obtain ⟨a, vs, h1, h2, h3⟩ := vwH_of s r e
    exact ⟨b, ds, a, vs, rfl, h1, h2, h3, po⟩
end
section
variable {X : Cx} {E : XK} {pos : Pos}
/-! ### the plain expressions -/
theorem me_var (i : Nat) {x : Str} (hN : X.N[i]? = some x := by rfl) (hv : Vis X.env.scope x := by first | exact Or.inl rfl | exact Or.inr (Or.inl rfl) | exact Or.inr (Or.inr rfl)) (hd : (x == ("__debug__" : Str)) = false := by decide)
    (hcd : (x == ("__classdict__" : Str)) = false := by decide) : PE X (.Name x pos) (TM (cg X) E (rd i)) := by
  refine PE.weak (pe_var hN hv hd hcd) fun σ H Q ⟨w, S, s, po⟩ => ?_
  unfold rd at po
  split at po
  · rename_i d hd
    obtain ⟨v, h1, h2⟩ := s.val i d hd
    exact ⟨v, h1, po w H (.refl ..) s v h2⟩
  · rename_i xs hx
    obtain ⟨p, k1, ⟨vs, k2, k3⟩, k4, k5⟩ := s.own i _ hx
    have s2 := s.frzOwn hx k1 k2 k3
    refine ⟨.ref p, k1, po _ H (Step.frzOwn s hx k1) s2 _ ?_⟩
    simp only [Rep]
    exact ⟨p, vs, rfl, upd_same, Reps.mono (.add k4) _ _ k3⟩
  · exact po.elim
theorem mh_var (i : Nat) {x : Str} (hN : X.N[i]? = some x := by rfl) (hv : Vis X.env.scope x := by first | exact Or.inl rfl | exact Or.inr (Or.inl rfl) | exact Or.inr (Or.inr rfl)) (hd : (x == ("__debug__" : Str)) = false := by decide)
    (hcd : (x == ("__classdict__" : Str)) = false := by decide) : PE X (.Name x pos) (TH (cg X) E (hdN i)) := by
  refine PE.weak (pe_var hN hv hd hcd) fun σ H Q ⟨w, S, s, po⟩ => ?_
  unfold hdN at po
  split at po
  · rename_i d hd
    obtain ⟨v, h1, h2⟩ := s.val i d hd
    exact ⟨v, h1, po w H (.refl ..) s v h2⟩
  · rename_i xs hx
    obtain ⟨p, k1, ⟨vs, k2, k3⟩, k4, k5⟩ := s.own i _ hx
    exact ⟨.ref p, k1, po w H (.refl ..) s _ k1⟩
  · exact po.elim
theorem mp_var (i : Nat) {x : Str} (hN : X.N[i]? = some x := by rfl) (hv : Vis X.env.scope x := by first | exact Or.inl rfl | exact Or.inr (Or.inl rfl) | exact Or.inr (Or.inr rfl)) (hd : (x == ("__debug__" : Str)) = false := by decide)
    (hcd : (x == ("__classdict__" : Str)) = false := by decide) : PE X (.Name x pos) (TP (cg X) E (plN i)) := by
  refine PE.weak (pe_var hN hv hd hcd) fun σ H Q ⟨w, S, s, po⟩ => ?_
  unfold plN at po
  split at po
  · rename_i r hd
    obtain ⟨v, h1, h2⟩ := s.val i _ hd
    simp only [Rep] at h2
    obtain ⟨h2, rfl⟩ := h2
    exact ⟨_, h1, po w H (.refl ..) s _ ⟨h2, rfl⟩⟩
  · rename_i xs hx
    obtain ⟨p, k1, _⟩ := s.own i _ hx
    exact ⟨.ref p, k1, po w H (.refl ..) s p k1⟩
  · exact po.elim
/-- from a value: what stands in it; its place -/
theorem mh_of {e : Expr} {m : M D} (h : PE X e (TM (cg X) E m)) : PE X e (TH (cg X) E (hdE m)) := by
  refine PE.weak h fun σ H Q ⟨w, S, s, po⟩ => ⟨w, S, s, ?_⟩
  exact Po.two po fun d w1 S1 H1 st s1 po1 v r => po1 w1 H1 (.refl ..) s1 v r
theorem mp_of {e : Expr} {m : M D} (h : PE X e (TM (cg X) E m)) : PE X e (TP (cg X) E (plE m)) := by
  refine PE.weak h fun σ H Q ⟨w, S, s, po⟩ => ⟨w, S, s, ?_⟩
  refine Po.two po fun d w1 S1 H1 st s1 po1 v r => ?_
  split at po1
  · rename_i q
    simp only [Rep] at r
    obtain ⟨h2, rfl⟩ := r
    exact po1 w1 H1 (.refl ..) s1 _ ⟨h2, rfl⟩
  · exact po1.elim
/-- a new object is frozen, becomes a box, is looked into -/
theorem me_frz {e : Expr} {m : M Cell} (h : PE X e (TC (cg X) E m)) : PE X e (TM (cg X) E (bd m frzC)) := by
  refine PE.weak h fun σ H Q ⟨w, S, s, po⟩ => ⟨w, S, s, ?_⟩
  cases e : m S with
  | ok x S' =>
    have po : Po (cg X) E ((m S).bind frzC) w S σ H (KD (cg X) Q) := po
    rw [e] at po
    intro w' H' st s' p hp hc hf hm
    cases x with
    | lst xs =>
      obtain ⟨vs, h1, h2⟩ := hc
      refine po (w'.add p (.lst vs)) H' (Step.freeze st hp hf) (s'.freeze h1 hf hm) _ ?_
      simp only [Rep]
      exact ⟨p, vs, rfl, upd_same, Reps.mono (.add hf) _ _ h2⟩
    | dK _ => exact po.elim
    | dT _ => exact po.elim
    | ins _ _ => exact po.elim
  | exc C fs S' =>
    have po : Po (cg X) E ((m S).bind frzC) w S σ H (KD (cg X) Q) := po
    rw [e] at po; exact po
  | stuck =>
    have po : Po (cg X) E ((m S).bind frzC) w S σ H (KD (cg X) Q) := po
    rw [e] at po; exact po
theorem me_box {e : Expr} {m : M Cell} (h : PE X e (TC (cg X) E m)) : PE X e (TM (cg X) E (bd m boxC)) := by
  refine PE.weak h fun σ H Q ⟨w, S, s, po⟩ => ⟨w, S, s, ?_⟩
  have po : Po (cg X) E ((m S).bind boxC) w S σ H (KD (cg X) Q) := po
  cases e : m S with
  | ok x S' =>
    rw [e] at po
    intro w' H' st s' p hp hc hf hm
    refine po (w'.bx p) H' (Step.box s' st hp) (s'.box hc hf hm) _ ?_
    simp only [Rep]
    refine ⟨?_, ?_⟩
    · show S'.g.nx < w'.n + 1
      rw [s'.n]; exact Nat.lt_succ_self _
    · rw [← s'.n, bx_new]
  | exc C fs S' => rw [e] at po; exact po
  | stuck => rw [e] at po; exact po
/-- a box is frozen where it is given -/
theorem me_fz {e : Expr} {m : M D} (h : PE X e (TM (cg X) E m)) : PE X e (TM (cg X) E (bd m frzD)) := by
  refine PE.weak h fun σ H Q ⟨w, S, s, po⟩ => ⟨w, S, s, ?_⟩
  refine Po.two (k := frzD) po fun d w1 S1 H1 st s1 po1 v r => ?_
  cases d with
  | box q =>
    unfold frzD at po1
    simp only at po1
    split at po1
    · rename_i xs hx
      simp only [Rep] at r
      obtain ⟨h1, rfl⟩ := r
      obtain ⟨_, ⟨vs, k2, k3⟩, k4⟩ := s1.cell q _ hx
      refine po1 _ H1 (Step.frz s1 hx) (s1.frz hx k2) _ ?_
      simp only [Rep]
      exact ⟨_, vs, rfl, upd_same, Reps.mono (.add k4) _ _ k3⟩
    · exact po1.elim
  | _ => exact po1 w1 H1 (.refl ..) s1 v r

/-- a value that is written -/
theorem me_c {e : Expr} {v : V} (d : D) (h : PE X e (tC v)) (hr : ∀ w, Rep (cg X) w d v) : PE X e (TM (cg X) E (ret d)) :=
  PE.weak h fun σ H Q ⟨w, S, s, po⟩ => po w H (.refl ..) s v (hr w)
theorem me_int {i : Int} {j : Nat} : PE X (.Constant (.int i) j pos) (TM (cg X) E (ret (.int i))) := me_c _ pe_int fun w => by simp only [Rep]
theorem me_bl {b : Bool} {j : Nat} : PE X (.Constant (.bool b) j pos) (TM (cg X) E (ret (.bl b))) := me_c _ pe_bl fun w => by simp only [Rep]
theorem me_non {j : Nat} : PE X (.Constant .none j pos) (TM (cg X) E (ret .non)) := me_c _ pe_non fun w => by simp only [Rep]
theorem me_str {x : Str} {j : Nat} : PE X (.Constant (.str x) j pos) (TM (cg X) E (ret (.str x))) := me_c _ pe_str fun w => by simp only [Rep]
theorem gl_of {x : Str} {a : Addr} (h : X.mg x = some (.ref a)) : (cg X).gl x = some a := by
  show (match X.mg x with | some (.ref a) => some a | _ => none) = some a
  rw [h]
theorem me_glo {x : Str} {a : Addr} (hg : Gl X x) (hm : X.mg x = some (.ref a)) (hd : (x == ("__debug__" : Str)) = false := by decide) : PE X (.Name x pos) (TM (cg X) E (ret (.glo x))) :=
  me_c _ (pe_glob (v := .ref a) hg hm rfl hd) fun w => by simp only [Rep]; exact ⟨a, gl_of hm, rfl⟩
theorem me_ty {x : Str} {n : String} (hg : Gl X x) (hm : X.mg x = none) (hv : bootBuiltins x = some (.type n)) (hn : x ≠ "__name__" := by decide) (hd : (x == ("__debug__" : Str)) = false := by decide) : PE X (.Name x pos) (TM (cg X) E (ret (.ty n))) :=
  me_c _ (pe_bltn (v := .ty n) hg hm hv rfl hn hd) fun w => by simp only [Rep]

/-! ### operators on two values -/
/-- f, on values as trees, is what r asks -/
def OpM (c : Gm) (E : XK) (r : R2) (f : D → D → M D) : Prop := ∀ w S σ H d1 d2 v1 v2 Q, Sim c w S σ H → Rep c w d1 v1 → Rep c w d2 v2 → Po c E (f d1 d2 S) w S σ H (KD c Q) → r v1 v2 H Q
theorem top_of {c : Gm} {r : R2} {f : D → D → M D} (h : OpM c E r f) {ma mb : M D} : ∀ σ H Q, TM c E (bd ma fun x => bd mb fun y => f x y) σ H Q → tOp r (TM c E ma) (TM c E mb) σ H Q := by
  rintro σ H Q ⟨w, S, s, po⟩
  refine ⟨w, S, s, Po.two (k := fun x => bd mb fun y => f x y) po fun d1 w1 S1 H1 st1 s1 po1 v1 r1 => ?_⟩
  refine ⟨w1, S1, s1, Po.two (k := fun y => f d1 y) po1 fun d2 w2 S2 H2 st2 s2 po2 v2 r2 => ?_⟩
  exact h w2 S2 σ H2 d1 d2 v1 v2 Q s2 (Rep.mono st2.le _ _ r1) r2 po2
theorem me_op {op : Operator} {r : R2} {f : D → D → M D} {a b : Expr} {ma mb : M D} (ho : OpR X (binaryOp op) r) (hf : OpM (cg X) E r f) (ha : PE X a (TM (cg X) E ma)) (hb : PE X b (TM (cg X) E mb)) :
    PE X (.BinOp a op b pos) (TM (cg X) E (bd ma fun x => bd mb fun y => f x y)) := PE.weak (pe_op ho ha hb) (top_of hf)
theorem me_cmp {op : CmpOp} {r : R2} {f : D → D → M D} {a b : Expr} {ma mb : M D} (ho : OpR X (compareOp op) r) (hf : OpM (cg X) E r f) (ha : PE X a (TM (cg X) E ma)) (hb : PE X b (TM (cg X) E mb)) (hm : behindInMarks op b = false) :
    PE X (.Compare a [op] [b] pos) (TM (cg X) E (bd ma fun x => bd mb fun y => f x y)) := PE.weak (pe_cmpR ho ha hb hm) (top_of hf)
def asB : D → M Bool
  | .bl b => ret b
  | _ => nope
theorem test_of {c : Gm} {m : M D} : ∀ σ H Q, TB c E (bd m asB) σ H Q → tTest (TM c E m) σ H Q := by
  rintro σ H Q ⟨w, S, s, po⟩
  refine ⟨w, S, s, Po.two (k := asB) po fun d w1 S1 H1 st s1 po1 v r => ?_⟩
  cases d with
  | bl b =>
    simp only [Rep] at r
    exact ⟨b, r, po1 w1 H1 (.refl ..) s1⟩
  | _ => exact po1.elim
theorem TT_tTest_weak {t t' : TE} (k : ∀ σ H Q, t' σ H Q → t σ H Q) : ∀ σ H Q, tTest t' σ H Q → tTest t σ H Q := fun σ H Q h => k σ H _ h
theorem mt_cmp {op : CmpOp} {r : R2} {f : D → D → M D} {a b : Expr} {ma mb : M D} (ho : OpR X (compareOp op) r) (hf : OpM (cg X) E r f) (ha : PE X a (TM (cg X) E ma)) (hb : PE X b (TM (cg X) E mb)) (hm : behindInMarks op b = false) :
    PT X (.Compare a [op] [b] pos) (TB (cg X) E (bd (bd ma fun x => bd mb fun y => f x y) asB)) :=
  PT.weak (pt_cmpR ho ha hb hm) fun σ H Q h => TT_tTest_weak (top_of hf) σ H Q (test_of σ H Q h)
/-- any other expression as a test (its value is a bool) -/
theorem mt_val {e : Expr} {m : M D} (h : PE X e (TM (cg X) E m)) (he : ∀ whole, isTrue e X.env whole = (do let v ← whole; standAt e.pos; holding [v] (truthy v)) := by intro _; rfl) : PT X e (TB (cg X) E (bd m asB)) :=
  PT.weak (pt_val h he) fun σ H Q h => test_of σ H Q h
def notM (m : M Bool) : M Bool := bd m fun b => ret (!b)
def andM (a b : M Bool) : M Bool := bd a fun x => if x = true then b else ret false
def orM (a b : M Bool) : M Bool := bd a fun x => if x = true then ret true else b
theorem mt_not {e : Expr} {m : M Bool} (h : PT X e (TB (cg X) E m)) : PT X (.UnaryOp .Not e pos) (TB (cg X) E (notM m)) :=
  PT.weak (pt_not h) fun σ H Q ⟨w, S, s, po⟩ => ⟨w, S, s, Po.two (k := fun b => ret (!b)) po fun b w1 S1 H1 st s1 po1 => po1 w1 H1 (.refl ..) s1⟩
theorem mw_and1 {e : Expr} {m : M Bool} (h : PT X e (TB (cg X) E m)) : PW X (.BoolOp .And [e] pos) (TB (cg X) E m) := pw_and1 h
theorem mw_or1 {e : Expr} {m : M Bool} (h : PT X e (TB (cg X) E m)) : PW X (.BoolOp .Or [e] pos) (TB (cg X) E m) := pw_or1 h
theorem mw_and {a b : Expr} {rest : List Expr} {m k : M Bool} (ha : PT X a (TB (cg X) E m)) (hb : PW X (.BoolOp .And (b :: rest) pos) (TB (cg X) E k)) : PW X (.BoolOp .And (a :: b :: rest) pos) (TB (cg X) E (andM m k)) := by
  refine PW.weak (pw_and ha hb) fun σ H Q ⟨w, S, s, po⟩ => ⟨w, S, s, Po.two (k := fun x => if x = true then k else ret false) po fun x w1 S1 H1 st s1 po1 => ?_⟩
  cases x with
  | true => exact ⟨w1, S1, s1, po1⟩
  | false => exact po1 w1 H1 (.refl ..) s1
theorem mw_or {a b : Expr} {rest : List Expr} {m k : M Bool} (ha : PT X a (TB (cg X) E m)) (hb : PW X (.BoolOp .Or (b :: rest) pos) (TB (cg X) E k)) : PW X (.BoolOp .Or (a :: b :: rest) pos) (TB (cg X) E (orM m k)) := by
  refine PW.weak (pw_or ha hb) fun σ H Q ⟨w, S, s, po⟩ => ⟨w, S, s, Po.two (k := fun x => if x = true then ret true else k) po fun x w1 S1 H1 st s1 po1 => ?_⟩
  cases x with
  | false => exact ⟨w1, S1, s1, po1⟩
  | true => exact po1 w1 H1 (.refl ..) s1
theorem mt_w {e : Expr} {m : M Bool} (h : PW X e (TB (cg X) E m)) : PT X e (TB (cg X) E m) := h.pt
/-- .. as values -/
def andV (a b : M D) : M D := bd a fun x => match x with | .bl true => bd b (fun y => match y with | .bl k => ret (.bl k) | _ => nope) | .bl false => ret (.bl false) | _ => nope
def orV (a b : M D) : M D := bd a fun x => match x with | .bl false => bd b (fun y => match y with | .bl k => ret (.bl k) | _ => nope) | .bl true => ret (.bl true) | _ => nope
def notV (a : M D) : M D := bd a fun x => match x with | .bl k => ret (.bl (!k)) | _ => nope
theorem me_one {op : BoolOp} {a : Expr} {m : M D} (h : PE X a (TM (cg X) E m)) : PE X (.BoolOp op [a] pos) (TM (cg X) E m) := pe_one h
theorem po_bl {c : Gm} {w : Wd} {S : Sg} {σ : FSt} {H : Hp} {Q : VK} {d : D} {v : V} (s : Sim c w S σ H) (r : Rep c w d v) (h : Po c E ((fun y => match y with | D.bl k => ret (.bl k) | _ => nope : D → M D) d S) w S σ H (KD c Q)) : Q v H := by
  cases d with
  | bl k =>
    exact h w H (.refl ..) s v r
  | _ => exact h.elim
theorem me_and {a b : Expr} {rest : List Expr} {m k : M D} (ha : PE X a (TM (cg X) E m)) (hb : PE X (.BoolOp .And (b :: rest) pos) (TM (cg X) E k)) : PE X (.BoolOp .And (a :: b :: rest) pos) (TM (cg X) E (andV m k)) := by
  refine PE.weak (pe_and ha hb) fun σ H Q ⟨w, S, s, po⟩ => ⟨w, S, s, ?_⟩
  unfold andV at po
  refine Po.two po fun x w1 S1 H1 st s1 po1 v r => ?_
  cases x with
  | bl b =>
    simp only [Rep] at r
    refine ⟨b, r, ?_⟩
    cases b with
    | true => exact ⟨w1, S1, s1, Po.two po1 fun y w2 S2 H2 st2 s2 po2 v2 r2 => po_bl s2 r2 po2⟩
    | false => exact po1 w1 H1 (.refl ..) s1 _ (by simp only [Rep])
  | _ => exact po1.elim
theorem me_or {a b : Expr} {rest : List Expr} {m k : M D} (ha : PE X a (TM (cg X) E m)) (hb : PE X (.BoolOp .Or (b :: rest) pos) (TM (cg X) E k)) : PE X (.BoolOp .Or (a :: b :: rest) pos) (TM (cg X) E (orV m k)) := by
  refine PE.weak (pe_or ha hb) fun σ H Q ⟨w, S, s, po⟩ => ⟨w, S, s, ?_⟩
  unfold orV at po
  refine Po.two po fun x w1 S1 H1 st s1 po1 v r => ?_
  cases x with
  | bl b =>
    simp only [Rep] at r
    refine ⟨b, r, ?_⟩
    cases b with
    | false => exact ⟨w1, S1, s1, Po.two po1 fun y w2 S2 H2 st2 s2 po2 v2 r2 => po_bl s2 r2 po2⟩
    | true => exact po1 w1 H1 (.refl ..) s1 _ (by simp only [Rep])
  | _ => exact po1.elim
theorem me_not {a : Expr} {m : M D} (ha : PE X a (TM (cg X) E m)) : PE X (.UnaryOp .Not a pos) (TM (cg X) E (notV m)) := by
  refine PE.weak (pe_not ha) fun σ H Q ⟨w, S, s, po⟩ => ⟨w, S, s, ?_⟩
  unfold notV at po
  refine Po.two po fun x w1 S1 H1 st s1 po1 v r => ?_
  cases x with
  | bl b =>
    simp only [Rep] at r
    exact ⟨b, r, po1 w1 H1 (.refl ..) s1 _ (by simp only [Rep])⟩
  | _ => exact po1.elim
def ifM {α : Type} (b : M Bool) (x y : M α) : M α := bd b fun k => if k = true then x else y
theorem me_if {t a b : Expr} {mt : M Bool} {ma mb : M D} (ht : PT X t (TB (cg X) E mt)) (ha : PE X a (TM (cg X) E ma)) (hb : PE X b (TM (cg X) E mb)) : PE X (.IfExp t a b pos) (TM (cg X) E (ifM mt ma mb)) := by
  refine PE.weak (pe_ifExp ht ha hb) fun σ H Q ⟨w, S, s, po⟩ => ⟨w, S, s, Po.two (k := fun k => if k = true then ma else mb) po fun k w1 S1 H1 st s1 po1 => ?_⟩
  cases k with
  | true => exact ⟨w1, S1, s1, po1⟩
  | false => exact ⟨w1, S1, s1, po1⟩
/-- a if t else b, either way a new list -/
theorem mc_if {t a b : Expr} {mt : M Bool} {ma mb : M Cell} (ht : PT X t (TB (cg X) E mt)) (ha : PE X a (TC (cg X) E ma)) (hb : PE X b (TC (cg X) E mb)) : PE X (.IfExp t a b pos) (TC (cg X) E (ifM mt ma mb)) := by
  refine PE.weak (pe_ifExp ht ha hb) fun σ H Q ⟨w, S, s, po⟩ => ⟨w, S, s, Po.two (k := fun k => if k = true then ma else mb) po fun k w1 S1 H1 st s1 po1 => ?_⟩
  cases k with
  | true => exact ⟨w1, S1, s1, Po.imp po1 fun x w2 S2 H2 st2 s2 q p hp => q p (st.th p hp)⟩
  | false => exact ⟨w1, S1, s1, Po.imp po1 fun x w2 S2 H2 st2 s2 q p hp => q p (st.th p hp)⟩
end
end Mm
end

section
/-! MmC: operators on values, displays, subscripts, slices, built-ins. -/
namespace Mm
open PySem L2

section
variable {c : Gm} {E : XK} {w : Wd} {S : Sg} {σ : FSt} {H : Hp}
theorem rep_int {i : Int} {v : V} (h : Rep c w (.int i) v) : v = .int i := by simp only [Rep] at h; exact h
theorem rep_bl {i : Bool} {v : V} (h : Rep c w (.bl i) v) : v = .bl i := by simp only [Rep] at h; exact h
theorem of_int {i : Int} : Rep c w (.int i) (.int i) := by simp only [Rep]
theorem of_bl {i : Bool} : Rep c w (.bl i) (.bl i) := by simp only [Rep]
theorem of_str {i : Str} : Rep c w (.str i) (.str i) := by simp only [Rep]
theorem of_non : Rep c w .non .non := by simp only [Rep]
/-- a run that gives a value there is: what is wanted holds of it -/
theorem Po.at {d : D} {v : V} {Q : VK} (s : Sim c w S σ H) (h : Po c E (.ok d S) w S σ H (KD c Q)) (r : Rep c w d v) : Q v H := h w H (.refl ..) s v r
/-- a new tuple, a new list that is frozen -/
theorem Po.tupAt {ds : List D} {vs : List V} {Q : VK} {p : Addr} (s : Sim c w S σ H) (h : Po c E (.ok (.tup ds) S) w S σ H (KD c Q)) (r : Reps c w ds vs) (hp : H p = none) : Q (.ref p) (upd H p (.tup vs)) := by
  have hf : w.Hf p = none := s.nofz hp
  have st := Step.laid w S σ (.tup vs) hp
  have s1 := s.laid (.tup vs) hp
  have nm : ¬ Mu w S σ p := fun m => by obtain ⟨_, o, e⟩ := s.mu m; rw [hp] at e; cases e
  refine h (w.add p (.tup vs)) _ (Step.freeze st hp hf) (s1.freeze upd_same hf nm) _ ?_
  simp only [Rep]
  exact ⟨p, vs, rfl, upd_same, Reps.mono (.add hf) _ _ r⟩
theorem Po.lstAt {ds : List D} {vs : List V} {Q : VK} {p : Addr} (s : Sim c w S σ H) (h : Po c E (.ok (.lst ds) S) w S σ H (KD c Q)) (r : Reps c w ds vs) (hp : H p = none) : Q (.ref p) (upd H p (.lst vs)) := by
  have hf : w.Hf p = none := s.nofz hp
  have st := Step.laid w S σ (.lst vs) hp
  have s1 := s.laid (.lst vs) hp
  have nm : ¬ Mu w S σ p := fun m => by obtain ⟨_, o, e⟩ := s.mu m; rw [hp] at e; cases e
  refine h (w.add p (.lst vs)) _ (Step.freeze st hp hf) (s1.freeze upd_same hf nm) _ ?_
  simp only [Rep]
  exact ⟨p, vs, rfl, upd_same, Reps.mono (.add hf) _ _ r⟩
/-- a new object, of which TC speaks -/
theorem Po.newAt {x : Cell} {o : HO} {Q : VK} {p : Addr} (s : Sim c w S σ H) (h : Po c E (.ok x S) w S σ H fun x w' S' H' => ∀ p, H p = none → CellR c w' H' p x → w'.Hf p = none → ¬ Mu w' S' σ p → Q (.ref p) H') (hp : H p = none) (r : CellR c w (upd H p o) p x) : Q (.ref p) (upd H p o) := by
  have hf : w.Hf p = none := s.nofz hp
  have nm : ¬ Mu w S σ p := fun m => by obtain ⟨_, o, e⟩ := s.mu m; rw [hp] at e; cases e
  exact h w _ (Step.laid w S σ o hp) (s.laid o hp) p hp r hf nm
end

/-! ### ints -/
def iop (f : Int → Int → M D) : D → D → M D
  | .int i, .int j => f i j
  | _, _ => nope
theorem opM_I0 {c : Gm} {E : XK} {g : Int → Int → V} {f : Int → Int → D} (h : ∀ w i j, Rep c w (f i j) (g i j)) : OpM c E (rI0 g) (iop fun i j => ret (f i j)) := by
  intro w S σ H d1 d2 v1 v2 Q s r1 r2 po
  cases d1 with
  | int i =>
    cases d2 with
    | int j => exact ⟨i, j, rep_int r1, rep_int r2, Po.at s po (h w i j)⟩
    | _ => exact po.elim
  | _ => exact po.elim
theorem opM_I {c : Gm} {E : XK} {C : Int → Int → Prop} [∀ i j, Decidable (C i j)] {g : Int → Int → V} {f : Int → Int → D} (h : ∀ w i j, Rep c w (f i j) (g i j)) : OpM c E (rI C g) (iop fun i j => if C i j then ret (f i j) else nope) := by
  intro w S σ H d1 d2 v1 v2 Q s r1 r2 po
  cases d1 with
  | int i =>
    cases d2 with
    | int j =>
      have po : Po c E ((if C i j then ret (f i j) else nope : M D) S) w S σ H (KD c Q) := po
      by_cases hc : C i j
      · rw [if_pos hc] at po
        exact ⟨i, j, rep_int r1, rep_int r2, hc, Po.at s po (h w i j)⟩
      · rw [if_neg hc] at po
        exact po.elim
    | _ => exact po.elim
  | _ => exact po.elim
instance {i j : Int} : Decidable (CMulW i j) := inferInstanceAs (Decidable (_ < _))
instance {i j : Int} : Decidable (CDivW i j) := inferInstanceAs (Decidable (_ ∧ _))
instance {i j : Int} : Decidable (CPow i j) := inferInstanceAs (Decidable (_ ∧ _))
def addI : D → D → M D := iop fun i j => ret (.int (i + j))
def subI : D → D → M D := iop fun i j => ret (.int (i - j))
def mulI : D → D → M D := iop fun i j => if CMulW i j then ret (.int (i * j)) else nope
def divI : D → D → M D := iop fun i j => if CDivW i j then ret (.int (i / j)) else nope
def modI : D → D → M D := iop fun i j => if 0 < j then ret (.int (i % j)) else nope
def powI : D → D → M D := iop fun i j => if CPow i j then ret (.int (i ^ j.toNat)) else nope
def ltI : D → D → M D := iop fun i j => ret (.bl (decide (i < j)))
def leI : D → D → M D := iop fun i j => ret (.bl (decide (i ≤ j)))
def gtI : D → D → M D := iop fun i j => ret (.bl (decide (j < i)))
def geI : D → D → M D := iop fun i j => ret (.bl (decide (j ≤ i)))
def bop (f : D → D → M D) (a b : M D) : M D := bd a fun x => bd b fun y => f x y
section
variable {X : Cx} {E : XK} {pos : Pos} {a b : Expr} {ma mb : M D}
theorem me_add (ha : PE X a (TM (cg X) E ma)) (hb : PE X b (TM (cg X) E mb)) : PE X (.BinOp a .Add b pos) (TM (cg X) E (bop addI ma mb)) := me_op op_add (opM_I0 fun _ _ _ => of_int) ha hb
theorem me_sub (ha : PE X a (TM (cg X) E ma)) (hb : PE X b (TM (cg X) E mb)) : PE X (.BinOp a .Sub b pos) (TM (cg X) E (bop subI ma mb)) := me_op op_sub (opM_I0 fun _ _ _ => of_int) ha hb
theorem me_mul (ha : PE X a (TM (cg X) E ma)) (hb : PE X b (TM (cg X) E mb)) : PE X (.BinOp a .Mult b pos) (TM (cg X) E (bop mulI ma mb)) := me_op op_mulW (opM_I fun _ _ _ => of_int) ha hb
theorem me_div (ha : PE X a (TM (cg X) E ma)) (hb : PE X b (TM (cg X) E mb)) : PE X (.BinOp a .FloorDiv b pos) (TM (cg X) E (bop divI ma mb)) := me_op op_fdivW (opM_I fun _ _ _ => of_int) ha hb
theorem me_mod (ha : PE X a (TM (cg X) E ma)) (hb : PE X b (TM (cg X) E mb)) : PE X (.BinOp a .Mod b pos) (TM (cg X) E (bop modI ma mb)) := me_op op_mod (opM_I fun _ _ _ => of_int) ha hb
theorem me_pow (ha : PE X a (TM (cg X) E ma)) (hb : PE X b (TM (cg X) E mb)) : PE X (.BinOp a .Pow b pos) (TM (cg X) E (bop powI ma mb)) := me_op op_pow (opM_I fun _ _ _ => of_int) ha hb
theorem me_lt (ha : PE X a (TM (cg X) E ma)) (hb : PE X b (TM (cg X) E mb)) : PE X (.Compare a [.Lt] [b] pos) (TM (cg X) E (bop ltI ma mb)) := me_cmp op_lt (opM_I0 fun _ _ _ => of_bl) ha hb (nomark _)
theorem me_le (ha : PE X a (TM (cg X) E ma)) (hb : PE X b (TM (cg X) E mb)) : PE X (.Compare a [.LtE] [b] pos) (TM (cg X) E (bop leI ma mb)) := me_cmp op_le (opM_I0 fun _ _ _ => of_bl) ha hb (nomark _)
theorem me_gt (ha : PE X a (TM (cg X) E ma)) (hb : PE X b (TM (cg X) E mb)) : PE X (.Compare a [.Gt] [b] pos) (TM (cg X) E (bop gtI ma mb)) := me_cmp op_gt (opM_I0 fun _ _ _ => of_bl) ha hb (nomark _)
theorem me_ge (ha : PE X a (TM (cg X) E ma)) (hb : PE X b (TM (cg X) E mb)) : PE X (.Compare a [.GtE] [b] pos) (TM (cg X) E (bop geI ma mb)) := me_cmp op_ge (opM_I0 fun _ _ _ => of_bl) ha hb (nomark _)
def bopT (f : D → D → M D) (a b : M D) : M Bool := bd (bop f a b) asB
theorem mt_lt (ha : PE X a (TM (cg X) E ma)) (hb : PE X b (TM (cg X) E mb)) : PT X (.Compare a [.Lt] [b] pos) (TB (cg X) E (bopT ltI ma mb)) := mt_cmp op_lt (opM_I0 fun _ _ _ => of_bl) ha hb (nomark _)
theorem mt_le (ha : PE X a (TM (cg X) E ma)) (hb : PE X b (TM (cg X) E mb)) : PT X (.Compare a [.LtE] [b] pos) (TB (cg X) E (bopT leI ma mb)) := mt_cmp op_le (opM_I0 fun _ _ _ => of_bl) ha hb (nomark _)
theorem mt_gt (ha : PE X a (TM (cg X) E ma)) (hb : PE X b (TM (cg X) E mb)) : PT X (.Compare a [.Gt] [b] pos) (TB (cg X) E (bopT gtI ma mb)) := mt_cmp op_gt (opM_I0 fun _ _ _ => of_bl) ha hb (nomark _)
theorem mt_ge (ha : PE X a (TM (cg X) E ma)) (hb : PE X b (TM (cg X) E mb)) : PT X (.Compare a [.GtE] [b] pos) (TB (cg X) E (bopT geI ma mb)) := mt_cmp op_ge (opM_I0 fun _ _ _ => of_bl) ha hb (nomark _)
def negM (a : M D) : M D := bd a fun x => match x with | .int i => ret (.int (-i)) | _ => nope
theorem me_neg (ha : PE X a (TM (cg X) E ma)) : PE X (.UnaryOp .USub a pos) (TM (cg X) E (negM ma)) := by
  refine PE.weak (pe_un un_neg ha) fun σ H Q ⟨w, S, s, po⟩ => ⟨w, S, s, Po.two po fun d w1 S1 H1 st s1 po1 v r => ?_⟩
  cases d with
  | int i => exact ⟨i, rep_int r, Po.at s1 po1 of_int⟩
  | _ => exact po1.elim
/-! ### chains -/
def chain2 (f g : D → D → M D) (a b k : M D) : M D := bd a fun x => bd b fun y => bd (f x y) fun z => match z with | .bl true => bd k fun u => g y u | .bl false => ret (.bl false) | _ => nope
theorem tch_of {c : Gm} {r r' : R2} {f g : D → D → M D} (hf : OpM c E r f) (hg : OpM c E r' g) {mc : M D} (hfp : ∀ d1 d2 S, ∃ o : Option Bool, f d1 d2 S = match o with | some k => .ok (.bl k) S | none => .stuck) : ∀ σ H Q, TM c E (chain2 f g ma mb mc) σ H Q → tChain r r' (TM c E ma) (TM c E mb) (TM c E mc) σ H Q := by
  rintro σ H Q ⟨w, S, s, po⟩
  unfold chain2 at po
  refine ⟨w, S, s, Po.two po fun d1 w1 S1 H1 st1 s1 po1 v1 r1 => ?_⟩
  refine ⟨w1, S1, s1, Po.two po1 fun d2 w2 S2 H2 st2 s2 po2 v2 r2 => ?_⟩
  obtain ⟨o, ho⟩ := hfp d1 d2 S2
  refine hf w2 S2 σ H2 d1 d2 v1 v2 _ s2 (Rep.mono st2.le _ _ r1) r2 ?_
  have po2 : Po c E ((f d1 d2 S2).bind _) w2 S2 σ H2 (KD c Q) := po2
  rw [ho] at po2 ⊢
  cases o with
  | none => exact po2.elim
  | some k =>
    intro w3 H3 st3 s3 v3 r3
    refine ⟨k, rep_bl r3, ?_⟩
    cases k with
    | true =>
      refine ⟨w3, S2, s3, Po.two (Po.rebase st3 po2) fun d4 w4 S4 H4 st4 s4 po4 v4 r4 => ?_⟩
      exact hg w4 S4 σ H4 d2 d4 v2 v4 Q s4 (Rep.mono (st3.le.trans st4.le) _ _ r2) r4 po4
    | false => exact po2 w3 H3 st3 s3 _ of_bl
theorem iop_pure {p : Int → Int → Bool} (d1 d2 : D) (S : Sg) : ∃ o : Option Bool, iop (fun i j => ret (.bl (p i j))) d1 d2 S = match o with | some k => .ok (.bl k) S | none => .stuck := by
  cases d1 with
  | int i =>
    cases d2 with
    | int j => exact ⟨some (p i j), rfl⟩
    | _ => exact ⟨none, rfl⟩
  | _ => exact ⟨none, rfl⟩
variable {k : Expr} {mk : M D}
theorem me_lele (ha : PE X a (TM (cg X) E ma)) (hb : PE X b (TM (cg X) E mb)) (hk : PE X k (TM (cg X) E mk)) (hm : lastMarks [.LtE, .LtE] [b, k] = false := by with_unfolding_all rfl) : PE X (.Compare a [.LtE, .LtE] [b, k] pos) (TM (cg X) E (chain2 leI leI ma mb mk)) :=
  PE.weak (pe_chain op_le op_le ha hb hk hm) (tch_of (opM_I0 fun _ _ _ => of_bl) (opM_I0 fun _ _ _ => of_bl) iop_pure)
theorem me_lelt (ha : PE X a (TM (cg X) E ma)) (hb : PE X b (TM (cg X) E mb)) (hk : PE X k (TM (cg X) E mk)) (hm : lastMarks [.LtE, .Lt] [b, k] = false := by with_unfolding_all rfl) : PE X (.Compare a [.LtE, .Lt] [b, k] pos) (TM (cg X) E (chain2 leI ltI ma mb mk)) :=
  PE.weak (pe_chain op_le op_lt ha hb hk hm) (tch_of (opM_I0 fun _ _ _ => of_bl) (opM_I0 fun _ _ _ => of_bl) iop_pure)
theorem me_ltlt (ha : PE X a (TM (cg X) E ma)) (hb : PE X b (TM (cg X) E mb)) (hk : PE X k (TM (cg X) E mk)) (hm : lastMarks [.Lt, .Lt] [b, k] = false := by with_unfolding_all rfl) : PE X (.Compare a [.Lt, .Lt] [b, k] pos) (TM (cg X) E (chain2 ltI ltI ma mb mk)) :=
  PE.weak (pe_chain op_lt op_lt ha hb hk hm) (tch_of (opM_I0 fun _ _ _ => of_bl) (opM_I0 fun _ _ _ => of_bl) iop_pure)
theorem tt_chain {c : Gm} {r r' : R2} {f g : D → D → M D} (hf : OpM c E r f) (hg : OpM c E r' g) {mc : M D} (hfp : ∀ d1 d2 S, ∃ o : Option Bool, f d1 d2 S = match o with | some k => .ok (.bl k) S | none => .stuck) : ∀ σ H Q, TB c E (bd (chain2 f g ma mb mc) asB) σ H Q → tTest (tChain r r' (TM c E ma) (TM c E mb) (TM c E mc)) σ H Q :=
  fun σ H Q h => TT_tTest_weak (tch_of hf hg hfp) σ H Q (test_of σ H Q h)
theorem mt_lele (ha : PE X a (TM (cg X) E ma)) (hb : PE X b (TM (cg X) E mb)) (hk : PE X k (TM (cg X) E mk)) (hm : lastMarks [.LtE, .LtE] [b, k] = false := by with_unfolding_all rfl) : PT X (.Compare a [.LtE, .LtE] [b, k] pos) (TB (cg X) E (bd (chain2 leI leI ma mb mk) asB)) :=
  PT.weak (pt_chain op_le op_le ha hb hk hm) (tt_chain (opM_I0 fun _ _ _ => of_bl) (opM_I0 fun _ _ _ => of_bl) iop_pure)
theorem mt_lelt (ha : PE X a (TM (cg X) E ma)) (hb : PE X b (TM (cg X) E mb)) (hk : PE X k (TM (cg X) E mk)) (hm : lastMarks [.LtE, .Lt] [b, k] = false := by with_unfolding_all rfl) : PT X (.Compare a [.LtE, .Lt] [b, k] pos) (TB (cg X) E (bd (chain2 leI ltI ma mb mk) asB)) :=
  PT.weak (pt_chain op_le op_lt ha hb hk hm) (tt_chain (opM_I0 fun _ _ _ => of_bl) (opM_I0 fun _ _ _ => of_bl) iop_pure)
theorem mt_ltlt (ha : PE X a (TM (cg X) E ma)) (hb : PE X b (TM (cg X) E mb)) (hk : PE X k (TM (cg X) E mk)) (hm : lastMarks [.Lt, .Lt] [b, k] = false := by with_unfolding_all rfl) : PT X (.Compare a [.Lt, .Lt] [b, k] pos) (TB (cg X) E (bd (chain2 ltI ltI ma mb mk) asB)) :=
  PT.weak (pt_chain op_lt op_lt ha hb hk hm) (tt_chain (opM_I0 fun _ _ _ => of_bl) (opM_I0 fun _ _ _ => of_bl) iop_pure)
/-! ### is None -/
def isN : D → Bool
  | .non => true
  | _ => false
def isNM (a : M D) : M D := bd a fun x => ret (.bl (isN x))
def notNM (a : M D) : M D := bd a fun x => ret (.bl (!isN x))
theorem isN_of {c : Gm} {w : Wd} {d : D} {v : V} (r : Rep c w d v) : decide (v = .non) = isN d := by
  cases d <;> simp only [Rep] at r <;> simp only [isN]
  case glo x => obtain ⟨a, _, rfl⟩ := r; rfl
  case box x => obtain ⟨_, rfl⟩ := r; rfl
  case lst x => obtain ⟨a, _, rfl, _⟩ := r; rfl
  case tup x => obtain ⟨a, _, rfl, _⟩ := r; rfl
  case scr x => obtain ⟨a, rfl, _⟩ := r; rfl
  all_goals (subst r; rfl)
theorem me_isN {j : Nat} {p : Pos} (ha : PE X a (TM (cg X) E ma)) : PE X (.Compare a [.Is] [.Constant .none j p] pos) (TM (cg X) E (isNM ma)) := by
  refine PE.weak (pe_cmp (pc_isN ha)) fun σ H Q ⟨w, S, s, po⟩ => ⟨w, S, s, Po.two po fun d w1 S1 H1 st s1 po1 v r => ?_⟩
  show Q (.bl (decide (v = .non))) H1
  rw [isN_of r]; exact Po.at s1 po1 of_bl
theorem me_notN {j : Nat} {p : Pos} (ha : PE X a (TM (cg X) E ma)) : PE X (.Compare a [.IsNot] [.Constant .none j p] pos) (TM (cg X) E (notNM ma)) := by
  refine PE.weak (pe_cmp (pc_notN ha)) fun σ H Q ⟨w, S, s, po⟩ => ⟨w, S, s, Po.two po fun d w1 S1 H1 st s1 po1 v r => ?_⟩
  show Q (.bl (!decide (v = .non))) H1
  rw [isN_of r]; exact Po.at s1 po1 of_bl
def isNT (a : M D) : M Bool := bd a fun x => ret (isN x)
def notNT (a : M D) : M Bool := bd a fun x => ret (!isN x)
theorem mt_isN {j : Nat} {p : Pos} (ha : PE X a (TM (cg X) E ma)) : PT X (.Compare a [.Is] [.Constant .none j p] pos) (TB (cg X) E (isNT ma)) := by
  refine PT.weak (pt_cmp (pc_isN ha)) fun σ H Q ⟨w, S, s, po⟩ => ⟨w, S, s, Po.two po fun d w1 S1 H1 st s1 po1 v r => ⟨_, rfl, ?_⟩⟩
  rw [isN_of r]; exact po1 w1 H1 (.refl ..) s1
theorem mt_notN {j : Nat} {p : Pos} (ha : PE X a (TM (cg X) E ma)) : PT X (.Compare a [.IsNot] [.Constant .none j p] pos) (TB (cg X) E (notNT ma)) := by
  refine PT.weak (pt_cmp (pc_notN ha)) fun σ H Q ⟨w, S, s, po⟩ => ⟨w, S, s, Po.two po fun d w1 S1 H1 st s1 po1 v r => ⟨_, rfl, ?_⟩⟩
  rw [isN_of r]; exact po1 w1 H1 (.refl ..) s1
end

/-! ### == of data -/
mutual
def pyD : D → Option PyData
  | .non => some .none
  | .bl b => some (.bool b)
  | .int i => some (.int i)
  | .str x => some (.str x)
  | .lst xs => (pyDs xs).map .list
  | .tup xs => (pyDs xs).map .tuple
  | .ty _ => none
  | .glo _ => none
  | .box _ => none
  | .scr _ => none
def pyDs : List D → Option (List PyData)
  | [] => some []
  | x :: xs => match pyD x, pyDs xs with
    | some p, some ps => some (p :: ps)
    | _, _ => none
end
section
variable {c : Gm} {w : Wd} {H : Hp}
mutual
theorem dp_of (hz : ∀ a o, w.Hf a = some o → H a = some o) : ∀ (d : D) (v : V) (p : PyData), Rep c w d v → pyD d = some p → Dp c.K H v p
  | .non, v, p, r, e => by simp only [Rep] at r; simp only [pyD] at e; cases e; subst r; exact .non
  | .bl b, v, p, r, e => by simp only [Rep] at r; simp only [pyD] at e; cases e; subst r; exact .bl b
  | .int b, v, p, r, e => by simp only [Rep] at r; simp only [pyD] at e; cases e; subst r; exact .int b
  | .str b, v, p, r, e => by simp only [Rep] at r; simp only [pyD] at e; cases e; subst r; exact .str b
  | .lst xs, v, p, r, e => by
    simp only [Rep] at r
    obtain ⟨a, vs, rfl, h1, h2⟩ := r
    simp only [pyD] at e
    obtain ⟨ps, e1, rfl⟩ := Option.map_eq_some_iff.mp e
    exact .lst (.inl (.inl (hz _ _ h1))) (dps_of hz xs vs ps h2 e1)
  | .tup xs, v, p, r, e => by
    simp only [Rep] at r
    obtain ⟨a, vs, rfl, h1, h2⟩ := r
    simp only [pyD] at e
    obtain ⟨ps, e1, rfl⟩ := Option.map_eq_some_iff.mp e
    exact .tup (.inl (.inl (hz _ _ h1))) (dps_of hz xs vs ps h2 e1)
  | .ty _, v, p, r, e => by simp only [pyD] at e; cases e
  | .glo _, v, p, r, e => by simp only [pyD] at e; cases e
  | .box _, v, p, r, e => by simp only [pyD] at e; cases e
  | .scr _, v, p, r, e => by simp only [pyD] at e; cases e
theorem dps_of (hz : ∀ a o, w.Hf a = some o → H a = some o) : ∀ (ds : List D) (vs : List V) (ps : List PyData), Reps c w ds vs → pyDs ds = some ps → DpAll c.K H vs ps
  | [], vs, ps, r, e => by
    rw [reps_nil.mp r]
    simp only [pyDs] at e; cases e; exact .nil
  | x :: xs, vs, ps, r, e => by
    obtain ⟨v, t, rfl, r1, r2⟩ := reps_cons.mp r
    simp only [pyDs] at e
    split at e
    · rename_i p ps' e1 e2
      cases e
      exact .cons (dp_of hz x v p r1 e1) (dps_of hz xs t ps' r2 e2)
    · cases e
end
end
def eqP (neg : Bool) (o1 o2 : Option PyData) : M D := match o1, o2 with
  | some p, some q => if (SeqAt.shaped p && SeqAt.shaped q) = true then ret (.bl (if neg then !PyData.eqv p q else PyData.eqv p q)) else nope
  | _, _ => nope
def eqM : D → D → M D := fun d1 d2 => eqP false (pyD d1) (pyD d2)
def neM : D → D → M D := fun d1 d2 => eqP true (pyD d1) (pyD d2)
theorem eqP_po {c : Gm} {E : XK} {w : Wd} {S : Sg} {σ : FSt} {H : Hp} {neg : Bool} {o1 o2 : Option PyData} {Q : VK} (s : Sim c w S σ H) (h : Po c E (eqP neg o1 o2 S) w S σ H (KD c Q)) :
    ∃ p q, o1 = some p ∧ o2 = some q ∧ SeqAt.shaped p = true ∧ SeqAt.shaped q = true ∧ Q (.bl (if neg then !PyData.eqv p q else PyData.eqv p q)) H := by
  unfold eqP at h
  split at h
  · rename_i p q
    by_cases e : (SeqAt.shaped p && SeqAt.shaped q) = true
    · rw [if_pos e] at h
      obtain ⟨e1, e2⟩ := Bool.and_eq_true_iff.mp e
      exact ⟨p, q, rfl, rfl, e1, e2, Po.at s h of_bl⟩
    · rw [if_neg e] at h
      exact h.elim
  · exact h.elim
theorem opM_eq {c : Gm} {E : XK} : OpM c E (rEqD c.K) eqM := by
  intro w S σ H d1 d2 v1 v2 Q s r1 r2 po
  obtain ⟨p, q, e1, e2, s1, s2, h⟩ := eqP_po s po
  exact ⟨p, q, dp_of s.fz d1 v1 p r1 e1, dp_of s.fz d2 v2 q r2 e2, s1, s2, h⟩
theorem opM_ne {c : Gm} {E : XK} : OpM c E (rNeD c.K) neM := by
  intro w S σ H d1 d2 v1 v2 Q s r1 r2 po
  obtain ⟨p, q, e1, e2, s1, s2, h⟩ := eqP_po s po
  exact ⟨p, q, dp_of s.fz d1 v1 p r1 e1, dp_of s.fz d2 v2 q r2 e2, s1, s2, h⟩
theorem hu64 {k : Nat} {A : Around} (hr : Room k A) : A.units + 64 < cLine := by have := hr.un; omega
theorem hu65 {k : Nat} {A : Around} (hr : Room k A) : A.units + 65 < cLine := by have := hr.un; omega
section
variable {X : Cx} {E : XK} {pos : Pos} {a b : Expr} {ma mb : M D} {va vb : M Vw} {n : Nat}
theorem me_eq (hr : Room n X.A) (ha : PE X a (TM (cg X) E ma)) (hb : PE X b (TM (cg X) E mb)) : PE X (.Compare a [.Eq] [b] pos) (TM (cg X) E (bop eqM ma mb)) := me_cmp (op_eqD (hu64 hr)) opM_eq ha hb (nomark _)
theorem me_ne (hr : Room n X.A) (ha : PE X a (TM (cg X) E ma)) (hb : PE X b (TM (cg X) E mb)) : PE X (.Compare a [.NotEq] [b] pos) (TM (cg X) E (bop neM ma mb)) := me_cmp (op_neD (hu64 hr)) opM_ne ha hb (nomark _)
theorem mt_eq (hr : Room n X.A) (ha : PE X a (TM (cg X) E ma)) (hb : PE X b (TM (cg X) E mb)) : PT X (.Compare a [.Eq] [b] pos) (TB (cg X) E (bopT eqM ma mb)) := mt_cmp (op_eqD (hu64 hr)) opM_eq ha hb (nomark _)
theorem mt_ne (hr : Room n X.A) (ha : PE X a (TM (cg X) E ma)) (hb : PE X b (TM (cg X) E mb)) : PT X (.Compare a [.NotEq] [b] pos) (TB (cg X) E (bopT neM ma mb)) := mt_cmp (op_neD (hu64 hr)) opM_ne ha hb (nomark _)
/-- of two sequences by what stands in them -/
def pyV (x : Vw) : Option PyData := (pyDs x.2).map fun ps => if x.1 = true then .list ps else .tuple ps
def eqHM (neg : Bool) (a b : M Hd) : M D := bd a fun x => bd b fun y => bd (see x) fun u => bd (see y) fun v => eqP neg (pyV u) (pyV v)
theorem dp_vw {c : Gm} {w : Wd} {H : Hp} {x : Vw} {a : Addr} {vs : List V} {p : PyData} (hz : ∀ a o, w.Hf a = some o → H a = some o) (h : VwR H x.1 a vs) (r : Reps c w x.2 vs) (e : pyV x = some p) : Dp c.K H (.ref a) p := by
  unfold pyV at e
  obtain ⟨ps, e1, rfl⟩ := Option.map_eq_some_iff.mp e
  unfold VwR at h
  cases hx : x.1 with
  | true =>
    rw [hx, if_pos rfl] at h
    exact .lst (.inl (.inl h)) (dps_of hz _ _ _ r e1)
  | false =>
    rw [hx, if_neg Bool.false_ne_true] at h
    exact .tup (.inl (.inl h)) (dps_of hz _ _ _ r e1)
theorem teqH {c : Gm} {neg : Bool} {ha hb : M Hd} : ∀ σ H Q, TM c E (eqHM neg ha hb) σ H Q → tOp (if neg then rNeD c.K else rEqD c.K) (TH c E ha) (TH c E hb) σ H Q := by
  rintro σ H Q ⟨w, S, s, po⟩
  unfold eqHM at po
  refine ⟨w, S, s, Po.two po fun x w1 S1 H1 st1 s1 po1 v1 r1 => ?_⟩
  refine ⟨w1, S1, s1, Po.two po1 fun y w2 S2 H2 st2 s2 po2 v2 r2 => ?_⟩
  obtain ⟨b1, d1, a1, us1, e1, rfl, k1, q1, po3⟩ := Po.see s2 (r1.mono st2.le) po2
  obtain ⟨b2, d2, a2, us2, e2, rfl, k2, q2, po4⟩ := Po.see s2 r2 po3
  obtain ⟨p, q, f1, f2, g1, g2, h⟩ := eqP_po s2 po4
  have D1 := dp_vw (x := (b1, d1)) s2.fz k1 q1 f1
  have D2 := dp_vw (x := (b2, d2)) s2.fz k2 q2 f2
  cases neg with
  | true => exact ⟨p, q, D1, D2, g1, g2, h⟩
  | false => exact ⟨p, q, D1, D2, g1, g2, h⟩
variable {ha hb : M Hd}
theorem me_eqH (hr : Room n X.A) (h1 : PE X a (TH (cg X) E ha)) (h2 : PE X b (TH (cg X) E hb)) : PE X (.Compare a [.Eq] [b] pos) (TM (cg X) E (eqHM false ha hb)) := PE.weak (pe_cmpR (op_eqD (hu64 hr)) h1 h2 (nomark _)) teqH
theorem me_neH (hr : Room n X.A) (h1 : PE X a (TH (cg X) E ha)) (h2 : PE X b (TH (cg X) E hb)) : PE X (.Compare a [.NotEq] [b] pos) (TM (cg X) E (eqHM true ha hb)) := PE.weak (pe_cmpR (op_neD (hu64 hr)) h1 h2 (nomark _)) teqH
theorem mt_eqH (hr : Room n X.A) (h1 : PE X a (TH (cg X) E ha)) (h2 : PE X b (TH (cg X) E hb)) : PT X (.Compare a [.Eq] [b] pos) (TB (cg X) E (bd (eqHM false ha hb) asB)) :=
  PT.weak (pt_cmpR (op_eqD (hu64 hr)) h1 h2 (nomark _)) fun σ H Q h => TT_tTest_weak teqH σ H Q (test_of σ H Q h)
theorem mt_neH (hr : Room n X.A) (h1 : PE X a (TH (cg X) E ha)) (h2 : PE X b (TH (cg X) E hb)) : PT X (.Compare a [.NotEq] [b] pos) (TB (cg X) E (bd (eqHM true ha hb) asB)) :=
  PT.weak (pt_cmpR (op_neD (hu64 hr)) h1 h2 (nomark _)) fun σ H Q h => TT_tTest_weak teqH σ H Q (test_of σ H Q h)
end
end Mm
end

section
/-! MmD: sequences: in, len, places, slices, joining, displays; the built-ins of one value. -/
namespace Mm
open PySem L2

/-! ### argument lists -/
def nilM : M (List D) := ret []
def consM (m : M D) (ms : M (List D)) : M (List D) := bd m fun d => bd ms fun ds => ret (d :: ds)
section
variable {X : Cx} {E : XK} {pos : Pos} {e : Expr} {es : List Expr} {m : M D} {ms : M (List D)}
theorem ml_nil : PA X [] (TL (cg X) E nilM) := PA.weak pa_nil fun σ H Q ⟨w, S, s, po⟩ => po w H (.refl ..) s [] .nil
theorem ml_cons (h : PE X e (TM (cg X) E m)) (t : PA X es (TL (cg X) E ms)) (hs : starEach (e :: es) X.env = (false, eval e X.env) :: starEach es X.env := by rfl) : PA X (e :: es) (TL (cg X) E (consM m ms)) := by
  refine PA.weak (pa_cons h t hs) fun σ H Q ⟨w, S, s, po⟩ => ?_
  refine ⟨w, S, s, Po.two (k := fun d => bd ms fun ds => ret (d :: ds)) po fun d w1 S1 H1 st s1 po1 v r => ?_⟩
  refine ⟨w1, S1, s1, Po.two (k := fun ds => ret (d :: ds)) po1 fun ds w2 S2 H2 st2 s2 po2 vs rs => ?_⟩
  exact po2 w2 H2 (.refl ..) s2 (v :: vs) (.cons (Rep.mono st2.le _ _ r) rs)
/-- a starred sequence in a display -/
def starM (h : M Hd) (ms : M (List D)) : M (List D) := bd h fun x => bd (see x) fun v => bd ms fun ds => ret (v.2 ++ ds)
theorem star_items {X : Cx} {pins : List (Addr × Obj)} {σ : FSt} {H : Hp} {s : Shared} {b : Bool} {a : Addr} {vs : List V} {Q : List Value → Shared → Prop} (I : Inv X pins σ H s) (h : VwR H b a vs)
    (k : ∀ us s', Inv X pins σ H s' → Vals vs us → Q us s') : PySem.W.StarOf (model X.prog X.w) X.A X.xe (.ref a) Q s := by
  unfold VwR at h
  cases b with
  | true =>
    rw [if_pos rfl] at h
    obtain ⟨hz, its, n, rv, e⟩ := (show ObjOk X.prog X.w H s.heap a (.lst vs) from I.hok a _ h)
    have hT : s.TypeIs (.ref a) "list" := ⟨_, e, rfl⟩
    have z : wpAny (model X.prog X.w) X.A (collect (.ref a)) Q X.xe s := by
      refine wpAny_collect_seq a (.inl rfl) e rfl rfl (fun h' hk => k its { s with heap := h' } (I.kept (t' := s.toks) fun b o q => hk b o q) rv) ?_
      rw [List.size_toArray, ← rv.length]; exact hz
    unfold PySem.W.StarOf notIterableAtAll
    exact wpAny_bind (wpAny_specialOf hT PySem.F.slot_list_iter.lookup (wpAny_pure ⟨rfl, z⟩))
  | false =>
    rw [if_neg Bool.false_ne_true] at h
    obtain ⟨hz, its, rv, o, e, hc, n, hd⟩ := (show ObjOk X.prog X.w H s.heap a (.tup vs) from I.hok a _ h)
    have hT : s.TypeIs (.ref a) "tuple" := ⟨_, e, hc⟩
    have z : wpAny (model X.prog X.w) X.A (collect (.ref a)) Q X.xe s := by
      refine wpAny_collect_seq a (.inr rfl) e hc hd (fun h' hk => k its { s with heap := h' } (I.kept (t' := s.toks) fun b o q => hk b o q) rv) ?_
      rw [List.size_toArray, ← rv.length]; exact hz
    unfold PySem.W.StarOf notIterableAtAll
    exact wpAny_bind (wpAny_specialOf hT PySem.F.slot_tuple_iter.lookup (wpAny_pure ⟨rfl, z⟩))
theorem ml_star {h : M Hd} {p : Pos} (he : PE X e (TH (cg X) E h)) (t : PA X es (TL (cg X) E ms)) (hs : starEach (.Starred e p :: es) X.env = (true, eval e X.env) :: starEach es X.env := by rfl) : PA X (.Starred e p :: es) (TL (cg X) E (starM h ms)) := by
  refine ⟨fun pos pins s σ H Q I ⟨w, S, sm, po⟩ => ?_⟩
  rw [hs]
  unfold starM at po
  show wpAny (model X.prog X.w) X.A (spliced ((true, (do let v ← eval e X.env; standAt pos; pure v)) :: backTo pos (starEach es X.env))) (AP X pins σ Q) X.xe s
  refine PySem.W.ks_spliced (thn (he.run pins s σ H (fun v H1 => ∃ w1 S1, Sim (cg X) w1 S1 σ H1 ∧ ∃ x, HdR (cg X) w1 σ v x ∧ Po (cg X) E ((bd (see x) fun v => bd ms fun ds => ret (v.2 ++ ds)) S1) w1 S1 σ H1 fun ds w' _ H' => ∀ vs, Reps (cg X) w' ds vs → Q vs H') I ⟨w, S, sm, Po.two po fun x w1 S1 H1 st s1 po1 v r => ⟨w1, S1, s1, x, r, po1⟩⟩) fun u s1 ⟨v, H1, I1, rv, w1, S1, sm1, x, hx, po1⟩ => ?_)
  obtain ⟨b, ds, a, vs, e1, rfl, k1, q1, po2⟩ := Po.see sm1 hx po1
  cases rv
  refine star_items I1 k1 fun us s2 I2 rvs => ?_
  refine thn (t.run pos pins s2 σ H1 (fun ys H2 => Q (vs ++ ys) H2) I2 ⟨w1, S1, sm1, Po.two po2 fun es w2 S2 H2 st2 s2' po3 ys ry => ?_⟩) fun us2 s3 ⟨ys, H3, I3, r3, q3⟩ => ⟨vs ++ ys, H3, I3, rvs.append r3, q3⟩
  exact po3 w2 H2 (.refl ..) s2' _ ((Reps.mono st2.le _ _ q1).append ry)
/-! ### displays -/
def tupM (ms : M (List D)) : M D := bd ms fun ds => if ds.length ≤ sizeLine then ret (.tup ds) else nope
def lstM (ms : M (List D)) : M Cell := bd ms fun ds => if ds.length ≤ sizeLine then ret (.lst ds) else nope
theorem me_tup {x1 : Nat} (h : PA X es (TL (cg X) E ms)) : PE X (.Tuple es x1 pos) (TM (cg X) E (tupM ms)) := by
  refine PE.weak (pe_tup h) fun σ H Q ⟨w, S, s, po⟩ => ?_
  unfold tupM at po
  refine ⟨w, S, s, Po.two po fun ds w1 S1 H1 st s1 po1 vs r => ?_⟩
  by_cases hz : ds.length ≤ sizeLine
  · rw [if_pos hz] at po1
    exact ⟨by rw [← r.length]; exact hz, fun p hp => Po.tupAt s1 po1 r hp⟩
  · rw [if_neg hz] at po1; exact po1.elim
theorem mc_lst (h : PA X es (TL (cg X) E ms)) : PE X (.List es pos) (TC (cg X) E (lstM ms)) := by
  refine PE.weak (pe_lst h) fun σ H Q ⟨w, S, s, po⟩ => ?_
  unfold lstM at po
  refine ⟨w, S, s, Po.two po fun ds w1 S1 H1 st s1 po1 vs r => ?_⟩
  by_cases hz : ds.length ≤ sizeLine
  · rw [if_pos hz] at po1
    refine ⟨by rw [← r.length]; exact hz, fun p hp => ?_⟩
    exact Po.newAt s1 (Po.imp po1 fun x w2 S2 H2 _ _ q p hp => q p (st.th p hp)) hp ⟨vs, upd_same, r⟩
  · rw [if_neg hz] at po1; exact po1.elim
theorem me_lst (h : PA X es (TL (cg X) E ms)) : PE X (.List es pos) (TM (cg X) E (bd (lstM ms) frzC)) := me_frz (mc_lst h)
end

section
variable {X : Cx} {E : XK} {pos p : Pos} {e a b : Expr} {m ma : M D} {h : M Hd} {n : Nat}
theorem seqL_of {K : PySem.W.Frag} {H : Hp} {b : Bool} {a : Addr} {vs : List V} (k : VwR H b a vs) : SqL K H a vs ∨ SqT K H a vs := by
  unfold VwR at k
  cases b with
  | true => rw [if_pos rfl] at k; exact .inl (.inl (.inl k))
  | false => rw [if_neg Bool.false_ne_true] at k; exact .inr (.inl (.inl k))
theorem seqL_t {K : PySem.W.Frag} {H : Hp} {a : Addr} {vs : List V} (k : VwR H true a vs) : SqL K H a vs := .inl (.inl k)
theorem seqL_f {K : PySem.W.Frag} {H : Hp} {a : Addr} {vs : List V} (k : VwR H false a vs) : SqT K H a vs := .inl (.inl k)
/-- a built-in of one sequence: what it makes of the items -/
def h1 (h : M Hd) (f : Vw → M D) : M D := bd h fun x => bd (see x) f
theorem mb_h {r : List V → Hp → VK → Prop} {f : Vw → M D} {x : Str} {id : String} (hc : CallR X (.builtin id) r) (hg : Gl X x) (hm : X.mg x = none) (hv : bootBuiltins x = some (.builtin id)) (he : PE X e (TH (cg X) E h))
    (k : ∀ w S σ H b ds a vs Q, Sim (cg X) w S σ H → VwR H b a vs → Reps (cg X) w ds vs → Po (cg X) E (f (b, ds) S) w S σ H (KD (cg X) Q) → r [.ref a] H Q)
    (hn : x ≠ "__name__" := by decide) (hdb : (x == ("__debug__" : Str)) = false := by decide) (h1' : starEach [e] X.env = [(false, eval e X.env)] := by rfl) : PE X (.Call (.Name x p) [e] [] pos) (TM (cg X) E (h1 h f)) := by
  refine PE.weak (pe_callB hc hg hm hv (pa_cons he pa_nil h1') hn hdb h1' rfl) fun σ H Q ⟨w, S, s, po⟩ => ?_
  unfold h1 at po
  refine ⟨w, S, s, Po.two po fun x w1 S1 H1 st s1 po1 v r1 => ?_⟩
  obtain ⟨b, ds, a, vs, e1, rfl, k1, q1, po2⟩ := Po.see s1 r1 po1
  exact k w1 S1 σ H1 b ds a vs Q s1 k1 q1 po2
theorem mb_ty {r : List V → Hp → VK → Prop} {f : Vw → M D} {x : Str} {T : String} (hc : CallR X (.type T) r) (hg : Gl X x) (hm : X.mg x = none) (hv : bootBuiltins x = some (.type T)) (he : PE X e (TH (cg X) E h))
    (k : ∀ w S σ H b ds a vs Q, Sim (cg X) w S σ H → VwR H b a vs → Reps (cg X) w ds vs → Po (cg X) E (f (b, ds) S) w S σ H (KD (cg X) Q) → r [.ref a] H Q)
    (hn : x ≠ "__name__" := by decide) (hdb : (x == ("__debug__" : Str)) = false := by decide) (h1' : starEach [e] X.env = [(false, eval e X.env)] := by rfl) : PE X (.Call (.Name x p) [e] [] pos) (TM (cg X) E (h1 h f)) := by
  refine PE.weak (pe_callTy hc hg hm hv (pa_cons he pa_nil h1') hn hdb h1' rfl) fun σ H Q ⟨w, S, s, po⟩ => ?_
  unfold h1 at po
  refine ⟨w, S, s, Po.two po fun x w1 S1 H1 st s1 po1 v r1 => ?_⟩
  obtain ⟨b, ds, a, vs, e1, rfl, k1, q1, po2⟩ := Po.see s1 r1 po1
  exact k w1 S1 σ H1 b ds a vs Q s1 k1 q1 po2
/-- all ints; all truth values -/
def intsOf : List D → Option (List Int)
  | [] => some []
  | .int i :: r => (intsOf r).map (i :: ·)
  | _ :: _ => none
def blsOf : List D → Option (List Bool)
  | [] => some []
  | .bl i :: r => (blsOf r).map (i :: ·)
  | _ :: _ => none
theorem intsOf_map : ∀ (ns : List Int), intsOf (ns.map D.int) = some ns
  | [] => rfl
  | n :: ns => by simp only [List.map_cons, intsOf, intsOf_map ns, Option.map_some]
theorem blsOf_map : ∀ (ns : List Bool), blsOf (ns.map D.bl) = some ns
  | [] => rfl
  | n :: ns => by simp only [List.map_cons, blsOf, blsOf_map ns, Option.map_some]
theorem intsOf_eq : ∀ {ds : List D} {ns : List Int}, intsOf ds = some ns → ds = ns.map D.int
  | [], ns, e => by simp only [intsOf] at e; cases e; rfl
  | d :: ds, ns, e => by
    cases d with
    | int i =>
      simp only [intsOf] at e
      obtain ⟨ms, e1, rfl⟩ := Option.map_eq_some_iff.mp e
      rw [intsOf_eq e1, List.map_cons]
    | _ => simp only [intsOf] at e; cases e
theorem blsOf_eq : ∀ {ds : List D} {ns : List Bool}, blsOf ds = some ns → ds = ns.map D.bl
  | [], ns, e => by simp only [blsOf] at e; cases e; rfl
  | d :: ds, ns, e => by
    cases d with
    | bl i =>
      simp only [blsOf] at e
      obtain ⟨ms, e1, rfl⟩ := Option.map_eq_some_iff.mp e
      rw [blsOf_eq e1, List.map_cons]
    | _ => simp only [blsOf] at e; cases e
def onInts (f : List Int → M D) : Vw → M D := fun v => if v.1 = true then (match intsOf v.2 with | some ns => f ns | none => nope) else nope
def onBls (f : List Bool → M D) : Vw → M D := fun v => if v.1 = true then (match blsOf v.2 with | some ns => f ns | none => nope) else nope
theorem onInts_po {c : Gm} {w : Wd} {S : Sg} {σ : FSt} {H : Hp} {f : List Int → M D} {b : Bool} {ds : List D} {a : Addr} {vs : List V} {K : D → Wd → Sg → Hp → Prop} (k : VwR H b a vs) (q : Reps c w ds vs) (po : Po c E (onInts f (b, ds) S) w S σ H K) :
    ∃ ns, SqL c.K H a (ns.map V.int) ∧ Po c E (f ns S) w S σ H K := by
  unfold onInts at po
  cases b with
  | true =>
    have po : Po c E ((match intsOf ds with | some ns => f ns | none => nope : M D) S) w S σ H K := po
    cases e : intsOf ds with
    | some ns =>
      rw [e] at po
      rw [intsOf_eq e] at q
      rw [q.ints] at k
      exact ⟨ns, seqL_t k, po⟩
    | none => rw [e] at po; exact po.elim
  | false => exact po.elim
theorem onBls_po {c : Gm} {w : Wd} {S : Sg} {σ : FSt} {H : Hp} {f : List Bool → M D} {b : Bool} {ds : List D} {a : Addr} {vs : List V} {K : D → Wd → Sg → Hp → Prop} (k : VwR H b a vs) (q : Reps c w ds vs) (po : Po c E (onBls f (b, ds) S) w S σ H K) :
    ∃ ns, SqL c.K H a (ns.map V.bl) ∧ Po c E (f ns S) w S σ H K := by
  unfold onBls at po
  cases b with
  | true =>
    have po : Po c E ((match blsOf ds with | some ns => f ns | none => nope : M D) S) w S σ H K := po
    cases e : blsOf ds with
    | some ns =>
      rw [e] at po
      rw [blsOf_eq e] at q
      rw [q.bls] at k
      exact ⟨ns, seqL_t k, po⟩
    | none => rw [e] at po; exact po.elim
  | false => exact po.elim
def lenF : Vw → M D := fun v => ret (.int v.2.length)
theorem me_len (hg : Gl X "len") (hm : X.mg "len" = none) (he : PE X e (TH (cg X) E h)) (h1' : starEach [e] X.env = [(false, eval e X.env)] := by rfl) : PE X (.Call (.Name "len" p) [e] [] pos) (TM (cg X) E (h1 h lenF)) :=
  mb_h call_len_seq hg hm PySem.boot_len he (fun w S σ H b ds a vs Q s k q po => ⟨a, vs, rfl, seqL_of k, by rw [← q.length]; exact Po.at s po of_int⟩) (by decide) (by decide) h1'
def sumF : Vw → M D := onInts fun ns => ret (.int ns.sum)
theorem me_sum (hc : X.calm = true) (hg : Gl X "sum") (hm : X.mg "sum" = none) (he : PE X e (TH (cg X) E h)) (h1' : starEach [e] X.env = [(false, eval e X.env)] := by rfl) : PE X (.Call (.Name "sum" p) [e] [] pos) (TM (cg X) E (h1 h sumF)) :=
  mb_h (cr_sum hc) hg hm (by decide +kernel) he (fun w S σ H b ds a vs Q s k q po => by
    obtain ⟨ns, hs, po⟩ := onInts_po k q po
    exact ⟨a, ns, rfl, hs, Po.at s po of_int⟩) (by decide) (by decide) h1'
def maxL : List Int → Int
  | [] => 0
  | x :: xs => xs.foldl max x
def minL : List Int → Int
  | [] => 0
  | x :: xs => xs.foldl min x
theorem foldl_max_ge : ∀ (l : List Int) (x : Int), x ≤ l.foldl max x ∧ (∀ y ∈ l, y ≤ l.foldl max x) ∧ (l.foldl max x = x ∨ l.foldl max x ∈ l)
  | [], x => ⟨Int.le_refl _, (fun y h => absurd h (by simp)), Or.inl rfl⟩
  | y :: l, x => by
    obtain ⟨h1, h2, h3⟩ := foldl_max_ge l (max x y)
    rw [List.foldl_cons]
    refine ⟨by omega, fun z hz => ?_, ?_⟩
    · rcases List.mem_cons.mp hz with e | e
      · subst e; omega
      · exact h2 z e
    · rcases h3 with e | e
      · rw [e]
        rcases Int.le_total x y with q | q
        · right; rw [Int.max_eq_right q]; exact List.mem_cons_self
        · left; exact Int.max_eq_left q
      · exact .inr (List.mem_cons_of_mem _ e)
theorem foldl_min_le : ∀ (l : List Int) (x : Int), l.foldl min x ≤ x ∧ (∀ y ∈ l, l.foldl min x ≤ y) ∧ (l.foldl min x = x ∨ l.foldl min x ∈ l)
  | [], x => ⟨Int.le_refl _, (fun y h => absurd h (by simp)), Or.inl rfl⟩
  | y :: l, x => by
    obtain ⟨h1, h2, h3⟩ := foldl_min_le l (min x y)
    rw [List.foldl_cons]
    refine ⟨by omega, fun z hz => ?_, ?_⟩
    · rcases List.mem_cons.mp hz with e | e
      · subst e; omega
      · exact h2 z e
    · rcases h3 with e | e
      · rw [e]
        rcases Int.le_total x y with q | q
        · left; exact Int.min_eq_left q
        · right; rw [Int.min_eq_right q]; exact List.mem_cons_self
      · exact .inr (List.mem_cons_of_mem _ e)
theorem maxL_spec {l : List Int} (h : l ≠ []) : maxL l ∈ l ∧ ∀ y ∈ l, y ≤ maxL l := by
  cases l with
  | nil => exact absurd rfl h
  | cons x xs =>
    obtain ⟨h1, h2, h3⟩ := foldl_max_ge xs x
    refine ⟨?_, fun y hy => ?_⟩
    · rcases h3 with e | e
      · show xs.foldl max x ∈ x :: xs
        rw [e]; exact List.mem_cons_self
      · exact List.mem_cons_of_mem _ e
    · rcases List.mem_cons.mp hy with e | e
      · subst e; exact h1
      · exact h2 y e
theorem minL_spec {l : List Int} (h : l ≠ []) : minL l ∈ l ∧ ∀ y ∈ l, minL l ≤ y := by
  cases l with
  | nil => exact absurd rfl h
  | cons x xs =>
    obtain ⟨h1, h2, h3⟩ := foldl_min_le xs x
    refine ⟨?_, fun y hy => ?_⟩
    · rcases h3 with e | e
      · show xs.foldl min x ∈ x :: xs
        rw [e]; exact List.mem_cons_self
      · exact List.mem_cons_of_mem _ e
    · rcases List.mem_cons.mp hy with e | e
      · subst e; exact h1
      · exact h2 y e
theorem maxL_eq {l : List Int} {m : Int} (h1 : m ∈ l) (h2 : ∀ y ∈ l, y ≤ m) : maxL l = m := by
  have hne : l ≠ [] := fun e => by rw [e] at h1; cases h1
  obtain ⟨a, b⟩ := maxL_spec hne
  exact Int.le_antisymm (h2 _ a) (b _ h1)
theorem minL_eq {l : List Int} {m : Int} (h1 : m ∈ l) (h2 : ∀ y ∈ l, m ≤ y) : minL l = m := by
  have hne : l ≠ [] := fun e => by rw [e] at h1; cases h1
  obtain ⟨a, b⟩ := minL_spec hne
  exact Int.le_antisymm (b _ h1) (h2 _ a)
def maxF : Vw → M D := onInts fun ns => if ns = [] then nope else ret (.int (maxL ns))
def minF : Vw → M D := onInts fun ns => if ns = [] then nope else ret (.int (minL ns))
theorem me_max (hc : X.calm = true) (hg : Gl X "max") (hm : X.mg "max" = none) (he : PE X e (TH (cg X) E h)) (h1' : starEach [e] X.env = [(false, eval e X.env)] := by rfl) : PE X (.Call (.Name "max" p) [e] [] pos) (TM (cg X) E (h1 h maxF)) :=
  mb_h (cr_max hc) hg hm (by decide +kernel) he (fun w S σ H b ds a vs Q s k q po => by
    obtain ⟨ns, hs, po⟩ := onInts_po k q po
    by_cases hne : ns = []
    · rw [if_pos hne] at po; exact po.elim
    · rw [if_neg hne] at po
      refine ⟨a, ns, rfl, hs, List.length_pos_iff.mpr hne, fun mx h1 h2 => ?_⟩
      rw [← maxL_eq h1 h2]; exact Po.at s po of_int) (by decide) (by decide) h1'
theorem me_min (hc : X.calm = true) (hg : Gl X "min") (hm : X.mg "min" = none) (he : PE X e (TH (cg X) E h)) (h1' : starEach [e] X.env = [(false, eval e X.env)] := by rfl) : PE X (.Call (.Name "min" p) [e] [] pos) (TM (cg X) E (h1 h minF)) :=
  mb_h (cr_min hc) hg hm (by decide +kernel) he (fun w S σ H b ds a vs Q s k q po => by
    obtain ⟨ns, hs, po⟩ := onInts_po k q po
    by_cases hne : ns = []
    · rw [if_pos hne] at po; exact po.elim
    · rw [if_neg hne] at po
      refine ⟨a, ns, rfl, hs, List.length_pos_iff.mpr hne, fun mx h1 h2 => ?_⟩
      rw [← minL_eq h1 h2]; exact Po.at s po of_int) (by decide) (by decide) h1'
def anyF : Vw → M D := onBls fun bs => ret (.bl (bs.any id))
def allF : Vw → M D := onBls fun bs => ret (.bl (bs.all id))
theorem me_any (hc : X.calm = true) (hg : Gl X "any") (hm : X.mg "any" = none) (he : PE X e (TH (cg X) E h)) (h1' : starEach [e] X.env = [(false, eval e X.env)] := by rfl) : PE X (.Call (.Name "any" p) [e] [] pos) (TM (cg X) E (h1 h anyF)) :=
  mb_h (cr_any hc) hg hm (by decide +kernel) he (fun w S σ H b ds a vs Q s k q po => by
    obtain ⟨ns, hs, po⟩ := onBls_po k q po
    exact ⟨a, ns, rfl, hs, Po.at s po of_bl⟩) (by decide) (by decide) h1'
theorem me_all (hc : X.calm = true) (hg : Gl X "all") (hm : X.mg "all" = none) (he : PE X e (TH (cg X) E h)) (h1' : starEach [e] X.env = [(false, eval e X.env)] := by rfl) : PE X (.Call (.Name "all" p) [e] [] pos) (TM (cg X) E (h1 h allF)) :=
  mb_h (cr_all hc) hg hm (by decide +kernel) he (fun w S σ H b ds a vs Q s k q po => by
    obtain ⟨ns, hs, po⟩ := onBls_po k q po
    exact ⟨a, ns, rfl, hs, Po.at s po of_bl⟩) (by decide) (by decide) h1'
/-! ### built-ins of values -/
def v1 (m : M D) (f : D → M D) : M D := bd m f
theorem mb_v {r : List V → Hp → VK → Prop} {f : D → M D} {x : Str} {id : String} (hc : CallR X (.builtin id) r) (hg : Gl X x) (hm : X.mg x = none) (hv : bootBuiltins x = some (.builtin id)) (he : PE X e (TM (cg X) E m))
    (k : ∀ w S σ H d v Q, Sim (cg X) w S σ H → Rep (cg X) w d v → Po (cg X) E (f d S) w S σ H (KD (cg X) Q) → r [v] H Q)
    (hn : x ≠ "__name__" := by decide) (hdb : (x == ("__debug__" : Str)) = false := by decide) (h1' : starEach [e] X.env = [(false, eval e X.env)] := by rfl) : PE X (.Call (.Name x p) [e] [] pos) (TM (cg X) E (v1 m f)) := by
  refine PE.weak (pe_callB hc hg hm hv (pa_cons he pa_nil h1') hn hdb h1' rfl) fun σ H Q ⟨w, S, s, po⟩ => ?_
  exact ⟨w, S, s, Po.two (k := f) po fun d w1 S1 H1 st s1 po1 v r1 => k w1 S1 σ H1 d v Q s1 r1 po1⟩
theorem mb_vty {r : List V → Hp → VK → Prop} {f : D → M D} {x : Str} {T : String} (hc : CallR X (.type T) r) (hg : Gl X x) (hm : X.mg x = none) (hv : bootBuiltins x = some (.type T)) (he : PE X e (TM (cg X) E m))
    (k : ∀ w S σ H d v Q, Sim (cg X) w S σ H → Rep (cg X) w d v → Po (cg X) E (f d S) w S σ H (KD (cg X) Q) → r [v] H Q)
    (hn : x ≠ "__name__" := by decide) (hdb : (x == ("__debug__" : Str)) = false := by decide) (h1' : starEach [e] X.env = [(false, eval e X.env)] := by rfl) : PE X (.Call (.Name x p) [e] [] pos) (TM (cg X) E (v1 m f)) := by
  refine PE.weak (pe_callTy hc hg hm hv (pa_cons he pa_nil h1') hn hdb h1' rfl) fun σ H Q ⟨w, S, s, po⟩ => ?_
  exact ⟨w, S, s, Po.two (k := f) po fun d w1 S1 H1 st s1 po1 v r1 => k w1 S1 σ H1 d v Q s1 r1 po1⟩
def v2 (a b : M D) (f : D → D → M D) : M D := bd a fun x => bd b fun y => f x y
theorem mb_v2 {r : List V → Hp → VK → Prop} {f : D → D → M D} {x : Str} {id : String} {mb : M D} (hc : CallR X (.builtin id) r) (hg : Gl X x) (hm : X.mg x = none) (hv : bootBuiltins x = some (.builtin id)) (ha : PE X a (TM (cg X) E ma)) (hb : PE X b (TM (cg X) E mb))
    (k : ∀ w S σ H d1 d2 u1 u2 Q, Sim (cg X) w S σ H → Rep (cg X) w d1 u1 → Rep (cg X) w d2 u2 → Po (cg X) E (f d1 d2 S) w S σ H (KD (cg X) Q) → r [u1, u2] H Q)
    (hn : x ≠ "__name__" := by decide) (hdb : (x == ("__debug__" : Str)) = false := by decide) (h1' : starEach [a, b] X.env = (false, eval a X.env) :: starEach [b] X.env := by rfl) (h2' : starEach [b] X.env = [(false, eval b X.env)] := by rfl) : PE X (.Call (.Name x p) [a, b] [] pos) (TM (cg X) E (v2 ma mb f)) := by
  refine PE.weak (pe_callB hc hg hm hv (pa_cons ha (pa_cons hb pa_nil h2') h1') hn hdb h1' (by rw [h2']; rfl)) fun σ H Q ⟨w, S, s, po⟩ => ?_
  unfold v2 at po
  refine ⟨w, S, s, Po.two po fun d1 w1 S1 H1 st s1 po1 u1 r1 => ?_⟩
  refine ⟨w1, S1, s1, Po.two po1 fun d2 w2 S2 H2 st2 s2 po2 u2 r2 => ?_⟩
  exact k w2 S2 σ H2 d1 d2 u1 u2 Q s2 (Rep.mono st2.le _ _ r1) r2 po2
def absF : D → M D
  | .int i => ret (.int (if i < 0 then -i else i))
  | _ => nope
theorem me_abs (hg : Gl X "abs") (hm : X.mg "abs" = none) (he : PE X e (TM (cg X) E m)) (h1' : starEach [e] X.env = [(false, eval e X.env)] := by rfl) : PE X (.Call (.Name "abs" p) [e] [] pos) (TM (cg X) E (v1 m absF)) :=
  mb_v call_abs hg hm (by decide +kernel) he (fun w S σ H d v Q s r po => by
    cases d with
    | int i => exact ⟨i, by rw [rep_int r], Po.at s po of_int⟩
    | _ => exact po.elim) (by decide) (by decide) h1'
def intF : D → M D
  | .int i => ret (.int i)
  | .bl b => ret (.int (if b = true then 1 else 0))
  | _ => nope
theorem me_intOf (hg : Gl X "int") (hm : X.mg "int" = none) (he : PE X e (TM (cg X) E m)) (h1' : starEach [e] X.env = [(false, eval e X.env)] := by rfl) : PE X (.Call (.Name "int" p) [e] [] pos) (TM (cg X) E (v1 m intF)) :=
  mb_vty call_int1 hg hm (by decide +kernel) he (fun w S σ H d v Q s r po => by
    cases d with
    | int i => exact .inl ⟨i, by rw [rep_int r], Po.at s po of_int⟩
    | bl i => exact .inr ⟨i, by rw [rep_bl r], Po.at s po of_int⟩
    | _ => exact po.elim) (by decide) (by decide) h1'
def max2F : D → D → M D := iop fun i j => ret (.int (if j > i then j else i))
def min2F : D → D → M D := iop fun i j => ret (.int (if j < i then j else i))
theorem me_max2 {mb : M D} (hc : X.calm = true) (hg : Gl X "max") (hm : X.mg "max" = none) (ha : PE X a (TM (cg X) E ma)) (hb : PE X b (TM (cg X) E mb)) (h1' : starEach [a, b] X.env = (false, eval a X.env) :: starEach [b] X.env := by rfl) (h2' : starEach [b] X.env = [(false, eval b X.env)] := by rfl) :
    PE X (.Call (.Name "max" p) [a, b] [] pos) (TM (cg X) E (v2 ma mb max2F)) :=
  mb_v2 (call_max2 hc) hg hm (by decide +kernel) ha hb (fun w S σ H d1 d2 u1 u2 Q s r1 r2 po => by
    cases d1 with
    | int i =>
      cases d2 with
      | int j => exact ⟨i, j, by rw [rep_int r1, rep_int r2], Po.at s po of_int⟩
      | _ => exact po.elim
    | _ => exact po.elim) (by decide) (by decide) h1' h2'
theorem me_min2 {mb : M D} (hc : X.calm = true) (hg : Gl X "min") (hm : X.mg "min" = none) (ha : PE X a (TM (cg X) E ma)) (hb : PE X b (TM (cg X) E mb)) (h1' : starEach [a, b] X.env = (false, eval a X.env) :: starEach [b] X.env := by rfl) (h2' : starEach [b] X.env = [(false, eval b X.env)] := by rfl) :
    PE X (.Call (.Name "min" p) [a, b] [] pos) (TM (cg X) E (v2 ma mb min2F)) :=
  mb_v2 (call_min2 hc) hg hm (by decide +kernel) ha hb (fun w S σ H d1 d2 u1 u2 Q s r1 r2 po => by
    cases d1 with
    | int i =>
      cases d2 with
      | int j => exact ⟨i, j, by rw [rep_int r1, rep_int r2], Po.at s po of_int⟩
      | _ => exact po.elim
    | _ => exact po.elim) (by decide) (by decide) h1' h2'
/-! ### list(..), tuple(..), sorted(..) -/
def h1C (h : M Hd) (f : Vw → M Cell) : M Cell := bd h fun x => bd (see x) f
def listF : Vw → M Cell := fun v => ret (.lst v.2)
theorem mc_list (hg : Gl X "list") (hm : X.mg "list" = none) (he : PE X e (TH (cg X) E h)) (h1' : starEach [e] X.env = [(false, eval e X.env)] := by rfl) : PE X (.Call (.Name "list" p) [e] [] pos) (TC (cg X) E (h1C h listF)) := by
  refine PE.weak (pe_callTy call_list_of hg hm (by decide +kernel) (pa_cons he pa_nil h1') (by decide) (by decide) h1' rfl) fun σ H Q ⟨w, S, s, po⟩ => ?_
  unfold h1C at po
  refine ⟨w, S, s, Po.two po fun x w1 S1 H1 st s1 po1 v r1 => ?_⟩
  obtain ⟨b, ds, a, vs, e1, rfl, k1, q1, po2⟩ := Po.see s1 r1 po1
  refine ⟨a, vs, rfl, seqL_of k1, fun p hp => ?_⟩
  exact Po.newAt s1 (Po.imp po2 fun x w2 S2 H2 _ _ q p hp => q p (st.th p hp)) hp ⟨vs, upd_same, q1⟩
/-- of the script itself -/
def scrF : D → M Cell
  | .scr ns => ret (.lst (ns.map D.int))
  | _ => nope
theorem mc_scr (hg : Gl X "list") (hm : X.mg "list" = none) (he : PE X e (TM (cg X) E m)) (h1' : starEach [e] X.env = [(false, eval e X.env)] := by rfl) : PE X (.Call (.Name "list" p) [e] [] pos) (TC (cg X) E (bd m scrF)) := by
  refine PE.weak (pe_callTy call_list_of hg hm (by decide +kernel) (pa_cons he pa_nil h1') (by decide) (by decide) h1' rfl) fun σ H Q ⟨w, S, s, po⟩ => ?_
  refine ⟨w, S, s, Po.two (k := scrF) po fun d w1 S1 H1 st s1 po1 v r1 => ?_⟩
  cases d with
  | scr ns =>
    simp only [Rep] at r1
    obtain ⟨a, rfl, hs⟩ := r1
    refine ⟨a, _, rfl, .inl (sqL_le s1.fz hs), fun p hp => ?_⟩
    exact Po.newAt s1 (Po.imp po1 fun x w2 S2 H2 _ _ q p hp => q p (st.th p hp)) hp ⟨_, upd_same, Reps.ofInts ns⟩
  | _ => exact po1.elim
def tupleF : Vw → M D := fun v => ret (.tup v.2)
theorem me_tuple (hg : Gl X "tuple") (hm : X.mg "tuple" = none) (he : PE X e (TH (cg X) E h)) (h1' : starEach [e] X.env = [(false, eval e X.env)] := by rfl) : PE X (.Call (.Name "tuple" p) [e] [] pos) (TM (cg X) E (h1 h (fun v => if v.1 = true then tupleF v else nope))) :=
  mb_ty call_tuple_of hg hm (by decide +kernel) he (fun w S σ H b ds a vs Q s k q po => by
    cases b with
    | true => exact ⟨a, vs, rfl, .inl ⟨seqL_t k, fun l hl => Po.tupAt s po q hl⟩⟩
    | false => exact po.elim) (by decide) (by decide) h1'
/-- sorted ints -/
def sortI (ns : List Int) : List Int := ns.mergeSort (fun a b => decide (a ≤ b))
theorem sortI_perm (ns : List Int) : (sortI ns).Perm ns := List.mergeSort_perm ns _
theorem sortI_pw (ns : List Int) : (sortI ns).Pairwise (· ≤ ·) := by
  have h := List.pairwise_mergeSort (le := fun (a b : Int) => decide (a ≤ b)) (fun a b c h1 h2 => by simp only [decide_eq_true_eq] at *; omega) (fun a b => by simp only [Bool.or_eq_true, decide_eq_true_eq]; omega) ns
  exact h.imp fun h => by simpa using h
theorem sortI_unique {a b : List Int} (h : a.Perm b) (ha : a.Pairwise (· ≤ ·)) (hb : b.Pairwise (· ≤ ·)) : a = b :=
  List.Perm.eq_of_pairwise (fun x y _ _ h1 h2 => Int.le_antisymm h1 h2) ha hb h
def sortF : Vw → M Cell := fun v => if v.1 = true then (match intsOf v.2 with | some ns => ret (.lst ((sortI ns).map D.int)) | none => nope) else nope
theorem mc_sorted (hg : Gl X "sorted") (hm : X.mg "sorted" = none) (he : PE X e (TH (cg X) E h)) (h1' : starEach [e] X.env = [(false, eval e X.env)] := by rfl) : PE X (.Call (.Name "sorted" p) [e] [] pos) (TC (cg X) E (h1C h sortF)) := by
  refine PE.weak (pe_callB cr_sortedI hg hm (by decide +kernel) (pa_cons he pa_nil h1') (by decide) (by decide) h1' rfl) fun σ H Q ⟨w, S, s, po⟩ => ?_
  unfold h1C at po
  refine ⟨w, S, s, Po.two po fun x w1 S1 H1 st s1 po1 v r1 => ?_⟩
  obtain ⟨b, ds, a, vs, e1, rfl, k1, q1, po2⟩ := Po.see s1 r1 po1
  unfold sortF at po2
  cases b with
  | true =>
    have po2 : Po (cg X) E ((match intsOf ds with | some ns => ret (Cell.lst ((sortI ns).map D.int)) | none => nope : M Cell) S1) w1 S1 σ H1 _ := po2
    cases e : intsOf ds with
    | some ns =>
      rw [e] at po2
      rw [intsOf_eq e] at q1
      rw [q1.ints] at k1
      refine ⟨a, ns, rfl, seqL_t k1, fun ns' p hp1 hp2 hp => ?_⟩
      have en : ns' = sortI ns := sortI_unique (hp1.trans (sortI_perm ns).symm) hp2 (sortI_pw ns)
      subst en
      exact Po.newAt s1 (Po.imp po2 fun x w2 S2 H2 _ _ q p hp => q p (st.th p hp)) hp ⟨_, upd_same, Reps.ofInts _⟩
    | none => rw [e] at po2; exact po2.elim
  | false => exact po2.elim
/-! ### in -/
def inP (neg : Bool) (d : D) (v : Vw) : M D := if v.1 = true then (match pyD d, pyDs v.2 with
  | some p, some ps => if (SeqAt.shaped p && SeqAt.shaped (.list ps)) = true then ret (.bl (if neg then !ps.any (fun z => PyData.eqv z p) else ps.any fun z => PyData.eqv z p)) else nope
  | _, _ => nope) else nope
def inM (neg : Bool) (m : M D) (h : M Hd) : M D := bd m fun d => bd h fun y => bd (see y) fun v => inP neg d v
theorem tinM {c : Gm} {neg : Bool} : ∀ σ H Q, TM c E (inM neg m h) σ H Q → tOp (if neg then rNotInD c.K else rInD c.K) (TM c E m) (TH c E h) σ H Q := by
  rintro σ H Q ⟨w, S, s, po⟩
  unfold inM at po
  refine ⟨w, S, s, Po.two po fun d w1 S1 H1 st1 s1 po1 v1 r1 => ?_⟩
  refine ⟨w1, S1, s1, Po.two po1 fun y w2 S2 H2 st2 s2 po2 v2 r2 => ?_⟩
  obtain ⟨b2, d2, a2, us2, e2, rfl, k2, q2, po4⟩ := Po.see s2 r2 po2
  unfold inP at po4
  cases b2 with
  | true =>
    have po4 : Po c E ((match pyD d, pyDs d2 with | some p, some ps => if (SeqAt.shaped p && SeqAt.shaped (.list ps)) = true then ret (.bl (if neg then !ps.any (fun z => PyData.eqv z p) else ps.any fun z => PyData.eqv z p)) else nope | _, _ => nope : M D) S2) w2 S2 σ H2 (KD c Q) := po4
    cases f1 : pyD d with
    | none => rw [f1] at po4; exact po4.elim
    | some p =>
      cases f2 : pyDs d2 with
      | none => rw [f1, f2] at po4; exact po4.elim
      | some ps =>
        rw [f1, f2] at po4
        have po4 : Po c E ((if (SeqAt.shaped p && SeqAt.shaped (.list ps)) = true then ret (.bl (if neg then !ps.any (fun z => PyData.eqv z p) else ps.any fun z => PyData.eqv z p)) else nope : M D) S2) w2 S2 σ H2 (KD c Q) := po4
        by_cases z : (SeqAt.shaped p && SeqAt.shaped (.list ps)) = true
        · rw [if_pos z] at po4
          obtain ⟨z1, z2⟩ := Bool.and_eq_true_iff.mp z
          have D1 := dp_of s2.fz d v1 p (Rep.mono st2.le _ _ r1) f1
          have D2 : Dp c.K H2 (.ref a2) (.list ps) := .lst (.inl (.inl k2)) (dps_of s2.fz _ _ _ q2 f2)
          have q := Po.at s2 po4 of_bl
          cases neg with
          | true => exact ⟨p, ps, D1, D2, z1, z2, q⟩
          | false => exact ⟨p, ps, D1, D2, z1, z2, q⟩
        · rw [if_neg z] at po4; exact po4.elim
  | false => exact po4.elim
theorem me_in (hr : Room n X.A) (ha : PE X a (TM (cg X) E m)) (hb : PE X b (TH (cg X) E h)) (hm : behindInMarks .In b = false := by rfl) : PE X (.Compare a [.In] [b] pos) (TM (cg X) E (inM false m h)) := PE.weak (pe_cmpR (op_inD (hu65 hr)) ha hb hm) tinM
theorem me_notin (hr : Room n X.A) (ha : PE X a (TM (cg X) E m)) (hb : PE X b (TH (cg X) E h)) (hm : behindInMarks .NotIn b = false := by rfl) : PE X (.Compare a [.NotIn] [b] pos) (TM (cg X) E (inM true m h)) := PE.weak (pe_cmpR (op_notInD (hu65 hr)) ha hb hm) tinM
theorem mt_in (hr : Room n X.A) (ha : PE X a (TM (cg X) E m)) (hb : PE X b (TH (cg X) E h)) (hm : behindInMarks .In b = false := by rfl) : PT X (.Compare a [.In] [b] pos) (TB (cg X) E (bd (inM false m h) asB)) :=
  PT.weak (pt_cmpR (op_inD (hu65 hr)) ha hb hm) fun σ H Q h => TT_tTest_weak tinM σ H Q (test_of σ H Q h)
theorem mt_notin (hr : Room n X.A) (ha : PE X a (TM (cg X) E m)) (hb : PE X b (TH (cg X) E h)) (hm : behindInMarks .NotIn b = false := by rfl) : PT X (.Compare a [.NotIn] [b] pos) (TB (cg X) E (bd (inM true m h) asB)) :=
  PT.weak (pt_cmpR (op_notInD (hu65 hr)) ha hb hm) fun σ H Q h => TT_tTest_weak tinM σ H Q (test_of σ H Q h)
/-! ### places, slices -/
def ixP (v : Vw) : D → M D
  | .int i => match atI v.2 i with | some d => ret d | none => nope
  | _ => nope
def ixM (h : M Hd) (i : M D) : M D := bd h fun x => bd i fun d => bd (see x) fun v => ixP v d
theorem ixN_len {n : Nat} {i : Int} {j : Nat} (h : ixN n i = some j) : j < n := by
  unfold ixN at h
  split at h
  · split at h
    · cases h; omega
    · cases h
  · split at h
    · cases h; omega
    · cases h
theorem atI_reps {c : Gm} {w : Wd} {ds : List D} {vs : List V} {i : Int} {d : D} (q : Reps c w ds vs) (e : atI ds i = some d) : ∃ v, atI vs i = some v ∧ Rep c w d v := by
  unfold atI at e ⊢
  rw [← q.length]
  cases k : ixN ds.length i with
  | none => rw [k] at e; cases e
  | some j =>
    rw [k] at e
    exact q.get e
theorem me_ix {mi : M D} (ho : PE X a (TH (cg X) E h)) (hi : PE X b (TM (cg X) E mi)) (hs : PlainIx b := by exact fun _ _ => rfl) : PE X (.Subscript a b pos) (TM (cg X) E (ixM h mi)) := by
  refine PE.weak (pe_ix ix_seq ho hi hs) fun σ H Q ⟨w, S, s, po⟩ => ?_
  unfold ixM at po
  refine ⟨w, S, s, Po.two po fun x w1 S1 H1 st1 s1 po1 v1 r1 => ?_⟩
  refine ⟨w1, S1, s1, Po.two po1 fun d w2 S2 H2 st2 s2 po2 v2 r2 => ?_⟩
  obtain ⟨b1, d1, a1, us1, e1, rfl, k1, q1, po3⟩ := Po.see s2 (r1.mono st2.le) po2
  unfold ixP at po3
  cases d with
  | int i =>
    have po3 : Po (cg X) E ((match atI d1 i with | some d => ret d | none => nope : M D) S2) w2 S2 σ H2 (KD (cg X) Q) := po3
    cases ey : atI d1 i with
    | some y =>
      rw [ey] at po3
      obtain ⟨v, h1, h2⟩ := atI_reps q1 ey
      have q := Po.at s2 po3 h2
      cases b1 with
      | true => exact .inl ⟨a1, us1, i, v, rfl, rep_int r2, seqL_t k1, h1, q⟩
      | false => exact .inr (.inl ⟨a1, us1, i, v, rfl, rep_int r2, seqL_f k1, h1, q⟩)
    | none => rw [ey] at po3; exact po3.elim
  | _ => exact po3.elim
def TO (c : Gm) (E : XK) (m : M (Option Int)) : L2.TO := fun σ H Q => ∃ w S, Sim c w S σ H ∧ Po c E (m S) w S σ H fun o _ _ H' => Q o H'
def oint : D → M (Option Int)
  | .int i => ret (some i)
  | _ => nope
theorem mo_none : PO X none (TO (cg X) E (ret none)) := ⟨fun pins s σ H Q I ⟨w, S, sm, po⟩ => po_none.run pins s σ H Q I (po w H (.refl ..) sm)⟩
theorem mo_some (he : PE X e (TM (cg X) E m)) : PO X (some e) (TO (cg X) E (bd m oint)) := ⟨fun pins s σ H Q I ⟨w, S, sm, po⟩ => by
  refine (po_some he).run pins s σ H Q I ⟨w, S, sm, Po.two (k := oint) po fun d w1 S1 H1 st1 s1 po1 v1 r1 => ?_⟩
  cases d with
  | int i => exact ⟨i, rep_int r1, po1 w1 H1 (.refl ..) s1⟩
  | _ => exact po1.elim⟩
def cutD (xs : List D) (lo hi : Option Int) : List D := (xs.drop (HT.sIx xs.length 0 lo)).take (HT.sIx xs.length xs.length hi - HT.sIx xs.length 0 lo)
theorem cut_reps {c : Gm} {w : Wd} {ds : List D} {vs : List V} (q : Reps c w ds vs) (lo hi : Option Int) : Reps c w (cutD ds lo hi) (cutV vs lo hi) := by
  unfold cutD cutV
  rw [← q.length]
  exact (q.drop _).take _
def slM (h : M Hd) (lo hi : M (Option Int)) : M D := bd h fun x => bd lo fun l => bd hi fun u => bd (see x) fun v => if v.1 = true then ret (.lst (cutD v.2 l u)) else ret (.tup (cutD v.2 l u))
def slC (h : M Hd) (lo hi : M (Option Int)) : M Cell := bd h fun x => bd lo fun l => bd hi fun u => bd (see x) fun v => if v.1 = true then ret (.lst (cutD v.2 l u)) else nope
theorem mc_slice {lo hi : Option Expr} {p2 : Pos} {ml mu : M (Option Int)} (ho : PE X a (TH (cg X) E h)) (hl : PO X lo (TO (cg X) E ml)) (hu : PO X hi (TO (cg X) E mu)) : PE X (.Subscript a (.Slice lo hi none p2) pos) (TC (cg X) E (slC h ml mu)) := by
  refine PE.weak (pe_slice sl_list ho hl hu) fun σ H Q ⟨w, S, s, po⟩ => ?_
  unfold slC at po
  refine ⟨w, S, s, Po.two po fun x w1 S1 H1 st1 s1 po1 v1 r1 => ?_⟩
  refine ⟨w1, S1, s1, Po.two po1 fun l w2 S2 H2 st2 s2 po2 => ?_⟩
  refine ⟨w2, S2, s2, Po.two po2 fun u w3 S3 H3 st3 s3 po3 => ?_⟩
  obtain ⟨b1, d1, a1, us1, e1, rfl, k1, q1, po4⟩ := Po.see s3 (r1.mono (st2.le.trans st3.le)) po3
  cases b1 with
  | true =>
    simp only [if_true] at po4
    refine ⟨a1, us1, rfl, seqL_t k1, fun p hp => ?_⟩
    exact Po.newAt s3 (Po.imp po4 fun x w5 S5 H5 _ _ q p hp => q p (st1.th p (st2.th p (st3.th p hp)))) hp ⟨_, upd_same, cut_reps q1 _ _⟩
  | false => exact po4.elim
theorem me_slice {lo hi : Option Expr} {p2 : Pos} {ml mu : M (Option Int)} (ho : PE X a (TH (cg X) E h)) (hl : PO X lo (TO (cg X) E ml)) (hu : PO X hi (TO (cg X) E mu)) : PE X (.Subscript a (.Slice lo hi none p2) pos) (TM (cg X) E (slM h ml mu)) := by
  refine PE.weak (pe_slice (sl_list.or sl_tupA) ho hl hu) fun σ H Q ⟨w, S, s, po⟩ => ?_
  unfold slM at po
  refine ⟨w, S, s, Po.two po fun x w1 S1 H1 st1 s1 po1 v1 r1 => ?_⟩
  refine ⟨w1, S1, s1, Po.two po1 fun l w2 S2 H2 st2 s2 po2 => ?_⟩
  refine ⟨w2, S2, s2, Po.two po2 fun u w3 S3 H3 st3 s3 po3 => ?_⟩
  have hx := r1.mono (st2.le.trans st3.le)
  obtain ⟨b1, d1, a1, us1, e1, rfl, k1, q1, po4⟩ := Po.see s3 hx po3
  cases b1 with
  | true =>
    simp only [if_true] at po4
    exact .inl ⟨a1, us1, rfl, seqL_t k1, fun p hp => Po.lstAt s3 po4 (cut_reps q1 _ _) hp⟩
  | false =>
    have po4 : Po (cg X) E (.ok (.tup (cutD d1 l u)) S3) w3 S3 σ H3 (KD (cg X) Q) := po4
    refine .inr ⟨a1, us1, rfl, seqL_f k1, fun ⟨z1, z2⟩ => ?_, fun _ p hp => Po.tupAt s3 po4 (cut_reps q1 _ _) hp⟩
    have e2 : cutD d1 l u = d1 := by
      unfold cutD
      rw [q1.length, z1, z2, List.drop_zero, Nat.sub_zero, ← q1.length, List.take_length]
    rw [e2] at po4
    refine Po.at s3 po4 ?_
    cases x with
    | d y =>
      have hx : Rep (cg X) w3 y (.ref a1) := hx
      cases y with
      | lst xs => simp only [vwH, vwD] at e1; cases e1
      | tup xs => simp only [vwH, vwD] at e1; cases e1; exact hx
      | box r =>
        simp only [vwH, vwD] at e1
        split at e1 <;> cases e1
      | _ => simp only [vwH, vwD] at e1; cases e1
    | sl i =>
      simp only [vwH] at e1
      split at e1
      · rename_i y hy
        obtain ⟨v', g1, g2⟩ := s3.val i y hy
        have hx : slotV σ i (.ref a1) := hx
        have z : some (some v') = some (some (V.ref a1)) := g1.symm.trans hx
        cases z
        cases y with
        | tup xs => simp only [vwD] at e1; cases e1; exact g2
        | box r =>
          simp only [vwD] at e1
          split at e1 <;> cases e1
        | lst _ => simp only [vwD] at e1; cases e1
        | _ => simp only [vwD] at e1; cases e1
      · cases e1
      · cases e1
def revC (h : M Hd) : M Cell := h1C h fun v => if v.1 = true then ret (.lst v.2.reverse) else nope
theorem mc_rev {k : Nat} {p1 p2 p3 : Pos} (ho : PE X a (TH (cg X) E h)) : PE X (.Subscript a (.Slice none none (some (.UnaryOp .USub (.Constant (.int 1) k p1) p2)) p3) pos) (TC (cg X) E (revC h)) := by
  refine PE.weak (pe_revL ho) fun σ H Q ⟨w, S, s, po⟩ => ?_
  unfold revC h1C at po
  refine ⟨w, S, s, Po.two po fun x w1 S1 H1 st1 s1 po1 v1 r1 => ?_⟩
  obtain ⟨b1, d1, a1, us1, e1, rfl, k1, q1, po4⟩ := Po.see s1 r1 po1
  cases b1 with
  | true =>
    simp only [if_true] at po4
    refine ⟨a1, us1, rfl, seqL_t k1, fun p hp => ?_⟩
    exact Po.newAt s1 (Po.imp po4 fun x w5 S5 H5 _ _ q p hp => q p (st1.th p hp)) hp ⟨_, upd_same, q1.reverse⟩
  | false => exact po4.elim
/-! ### joining, repeating -/
def catC (ha hb : M Hd) : M Cell := bd ha fun x => bd hb fun y => bd (see x) fun u => bd (see y) fun v => if u.1 = true ∧ v.1 = true ∧ u.2.length + v.2.length ≤ sizeLine then ret (.lst (u.2 ++ v.2)) else nope
theorem mc_cat {hb : M Hd} (h1 : PE X a (TH (cg X) E h)) (h2 : PE X b (TH (cg X) E hb)) : PE X (.BinOp a .Add b pos) (TC (cg X) E (catC h hb)) := by
  refine PE.weak (pe_op op_cat h1 h2) fun σ H Q ⟨w, S, s, po⟩ => ?_
  unfold catC at po
  refine ⟨w, S, s, Po.two po fun x w1 S1 H1 st1 s1 po1 v1 r1 => ?_⟩
  refine ⟨w1, S1, s1, Po.two po1 fun y w2 S2 H2 st2 s2 po2 v2 r2 => ?_⟩
  obtain ⟨b1, d1, a1, us1, e1, rfl, k1, q1, po3⟩ := Po.see s2 (r1.mono st2.le) po2
  obtain ⟨b2, d2, a2, us2, e2, rfl, k2, q2, po4⟩ := Po.see s2 r2 po3
  by_cases z : b1 = true ∧ b2 = true ∧ d1.length + d2.length ≤ sizeLine
  · obtain ⟨z1, z2, z3⟩ := z
    subst z1 z2
    rw [if_pos ⟨rfl, rfl, z3⟩] at po4
    refine ⟨a1, a2, us1, us2, rfl, rfl, k1, k2, by rw [← q1.length, ← q2.length]; exact z3, fun p hp => ?_⟩
    exact Po.newAt s2 (Po.imp po4 fun x w5 S5 H5 _ _ q p hp => q p (st1.th p (st2.th p hp))) hp ⟨_, upd_same, q1.append q2⟩
  · rw [if_neg z] at po4; exact po4.elim
def repC (h : M Hd) (m : M D) : M Cell := bd h fun x => bd m fun d => bd (see x) fun u => match d with
  | .int k => if u.1 = true ∧ -(2 ^ 63) ≤ k ∧ k < 2 ^ 63 ∧ u.2.length * k.toNat ≤ sizeLine then ret (.lst (List.replicate k.toNat u.2).flatten) else nope
  | _ => nope
theorem mc_rep (h1 : PE X a (TH (cg X) E h)) (h2 : PE X b (TM (cg X) E m)) : PE X (.BinOp a .Mult b pos) (TC (cg X) E (repC h m)) := by
  refine PE.weak (pe_op op_rep h1 h2) fun σ H Q ⟨w, S, s, po⟩ => ?_
  unfold repC at po
  refine ⟨w, S, s, Po.two po fun x w1 S1 H1 st1 s1 po1 v1 r1 => ?_⟩
  refine ⟨w1, S1, s1, Po.two po1 fun d w2 S2 H2 st2 s2 po2 v2 r2 => ?_⟩
  obtain ⟨b1, d1, a1, us1, e1, rfl, k1, q1, po3⟩ := Po.see s2 (r1.mono st2.le) po2
  cases d with
  | int k =>
    simp only at po3
    by_cases z : b1 = true ∧ -(2 ^ 63) ≤ k ∧ k < 2 ^ 63 ∧ d1.length * k.toNat ≤ sizeLine
    · rw [if_pos z] at po3
      obtain ⟨z1, z2, z3, z4⟩ := z
      subst z1
      refine ⟨a1, k, us1, rfl, rep_int r2, k1, z2, z3, by rw [← q1.length]; exact z4, fun p hp => ?_⟩
      exact Po.newAt s2 (Po.imp po3 fun x w5 S5 H5 _ _ q p hp => q p (st1.th p (st2.th p hp))) hp ⟨_, upd_same, q1.rep _⟩
    · rw [if_neg z] at po3; exact po3.elim
  | _ => exact po3.elim
end
end Mm
end

section
/-! MmE: statements, targets, loops, comprehensions. -/
namespace Mm
open PySem L2

inductive Fl where
  | nx | rt (d : D) | bk | ct
def FlP (c : Gm) (Dn : Ends) (w' : Wd) (σ' : FSt) (H' : Hp) : Fl → Prop
  | .nx => Dn.nx σ' H'
  | .rt d => ∀ v, Rep c w' d v → Dn.rt v H'
  | .bk => Dn.bk σ' H'
  | .ct => Dn.ct σ' H'
def PoS (c : Gm) (E : XK) (r : R Fl) (w : Wd) (S : Sg) (σ : FSt) (H : Hp) (Dn : Ends) : Prop := match r with
  | .ok f S' => ∀ w' σ' H', Step w S σ H w' S' σ' H' → Sim c w' S' σ' H' → FlP c Dn w' σ' H' f
  | .exc C fs S' => ExcP c E C fs S' w S σ H
  | .stuck => False
def TSm (c : Gm) (E : XK) (m : M Fl) : TS := fun Dn σ H => ∃ w S, Sim c w S σ H ∧ PoS c E (m S) w S σ H Dn
section
variable {c : Gm} {E : XK} {α : Type} {w w1 : Wd} {S S1 : Sg} {σ σ1 : FSt} {H H1 : Hp} {Dn Dn' : Ends}
theorem PoS.rebase {r : R Fl} (st : Step w S σ H w1 S1 σ1 H1) (h : PoS c E r w S σ H Dn) : PoS c E r w1 S1 σ1 H1 Dn := by
  cases r with
  | ok a S' => exact fun w' σ' H' s1 sm => h w' σ' H' (st.trans s1) sm
  | exc C fs S' => exact fun w' σ' H' Ca dx ys s1 sm => h w' σ' H' Ca dx ys (st.trans s1) sm
  | stuck => exact h
/-- a run of an expression's part ahead of a statement's -/
theorem PoS.two {m : R α} {k : α → Sg → R Fl} {K' : α → Wd → Sg → Hp → Prop} (h : PoS c E (m.bind k) w S σ H Dn)
    (q : ∀ a w1 S1 H1, Step w S σ H w1 S1 σ H1 → Sim c w1 S1 σ H1 → PoS c E (k a S1) w1 S1 σ H1 Dn → K' a w1 S1 H1) : Po c E m w S σ H K' := by
  cases m with
  | ok a S' => exact fun w' H' s1 sm => q a w' S' H' s1 sm (PoS.rebase s1 h)
  | exc C fs S' => exact h
  | stuck => exact h
/-- a statement ahead of another one -/
theorem PoS.seq {m : R Fl} {k : Fl → Sg → R Fl} (h : PoS c E (m.bind k) w S σ H Dn)
    (q : ∀ f w1 S1 σ1 H1, Step w S σ H w1 S1 σ1 H1 → Sim c w1 S1 σ1 H1 → PoS c E (k f S1) w1 S1 σ1 H1 Dn → FlP c Dn' w1 σ1 H1 f) : PoS c E m w S σ H Dn' := by
  cases m with
  | ok a S' => exact fun w' σ' H' s1 sm => q a w' S' σ' H' s1 sm (PoS.rebase s1 h)
  | exc C fs S' => exact h
  | stuck => exact h
theorem PoS.here {f : Fl} (s : Sim c w S σ H) (h : PoS c E (.ok f S) w S σ H Dn) : FlP c Dn w σ H f := h w σ H (.refl ..) s
end

/-! ### blocks and small statements -/
def seqM (a b : M Fl) : M Fl := bd a fun f => match f with | .nx => b | f => ret f
def retM (m : M D) : M Fl := bd m fun d => ret (.rt d)
def exprM (m : M D) : M Fl := bd m fun _ => ret .nx
def setM (i : Nat) (m : M D) : M Fl := bd m fun d S => .ok .nx (S.st i (.val d))
def ownM (i : Nat) (m : M Cell) : M Fl := bd m fun x S => .ok .nx (S.st i (.own x))
section
variable {X : Cx} {E : XK} {pos : Pos} {e : Expr} {m : M D} {a b : M Fl} {st : Stmt} {rest : List Stmt}
theorem mss_nil : PSs X [] (TSm (cg X) E (ret .nx)) := PSs.weak pss_nil fun Dn σ H ⟨w, S, s, po⟩ => PoS.here s po
theorem mss_cons (h1 : PS X st (TSm (cg X) E a)) (h2 : PSs X rest (TSm (cg X) E b)) : PSs X (st :: rest) (TSm (cg X) E (seqM a b)) := by
  refine PSs.weak (pss_cons h1 h2) fun Dn σ H ⟨w, S, s, po⟩ => ⟨w, S, s, ?_⟩
  unfold seqM at po
  refine PoS.seq po fun f w1 S1 σ1 H1 st1 s1 po1 => ?_
  cases f with
  | nx => exact ⟨w1, S1, s1, po1⟩
  | rt d => exact PoS.here (E := E) (f := .rt d) s1 po1
  | bk => exact PoS.here (E := E) (f := .bk) s1 po1
  | ct => exact PoS.here (E := E) (f := .ct) s1 po1
theorem mss_one (h1 : PS X st (TSm (cg X) E a)) : PSs X [st] (TSm (cg X) E a) := pss_one h1
theorem ms_pass : PS X (.Pass pos) (TSm (cg X) E (ret .nx)) := PS.weak ps_pass fun Dn σ H ⟨w, S, s, po⟩ => PoS.here s po
theorem ms_break : PS X (.Break pos) (TSm (cg X) E (ret .bk)) := PS.weak ps_break fun Dn σ H ⟨w, S, s, po⟩ => PoS.here s po
theorem ms_continue : PS X (.Continue pos) (TSm (cg X) E (ret .ct)) := PS.weak ps_continue fun Dn σ H ⟨w, S, s, po⟩ => PoS.here s po
theorem ms_never : PS X st (TSm (cg X) E nope) := PS.weak ps_never fun Dn σ H ⟨w, S, s, po⟩ => po
theorem ms_ret (h : PE X e (TM (cg X) E m)) : PS X (.Return (some e) pos) (TSm (cg X) E (retM m)) := by
  refine PS.weak (ps_ret h) fun Dn σ H ⟨w, S, s, po⟩ => ⟨w, S, s, ?_⟩
  exact PoS.two (k := fun d => ret (.rt d)) po fun d w1 S1 H1 st1 s1 po1 v r => PoS.here s1 po1 v r
theorem ms_expr (h : PE X e (TM (cg X) E m)) (hs : swapsWith e none pos.line X.env = pure false := by rfl) : PS X (.Expr e pos) (TSm (cg X) E (exprM m)) := by
  refine PS.weak (ps_expr h hs) fun Dn σ H ⟨w, S, s, po⟩ => ⟨w, S, s, ?_⟩
  exact PoS.two (k := fun _ => ret .nx) po fun d w1 S1 H1 st1 s1 po1 v r => PoS.here s1 po1
theorem ms_if {t : Expr} {mt : M Bool} {xs ys : List Stmt} (ht : PT X t (TB (cg X) E mt)) (ha : PSs X xs (TSm (cg X) E a)) (hb : PSs X ys (TSm (cg X) E b)) : PS X (.If t xs ys pos) (TSm (cg X) E (ifM mt a b)) := by
  refine PS.weak (ps_if ht ha hb) fun Dn σ H ⟨w, S, s, po⟩ => ⟨w, S, s, ?_⟩
  refine PoS.two (k := fun k => if k = true then a else b) po fun k w1 S1 H1 st1 s1 po1 => ?_
  cases k with
  | true => exact ⟨w1, S1, s1, po1⟩
  | false => exact ⟨w1, S1, s1, po1⟩
theorem ms_set {i : Nat} {x : Str} {pos' : Pos} (hN : X.N.Nodup) (hi : X.N[i]? = some x) (hx : Loc X.env.scope x) (h : PE X e (TM (cg X) E m)) (hs : swapsWith e (some (.Name x pos')) pos.line X.env = pure false := by rfl)
    (hf : X.fn x = true ∨ X.env.scope.names.lookup x = some .local := by first | exact .inl rfl | exact .inr rfl | assumption) : PS X (.Assign [.Name x pos'] e pos) (TSm (cg X) E (setM i m)) := by
  refine PS.weak (ps_set hN hi hx h hs hf) fun Dn σ H ⟨w, S, s, po⟩ => ⟨w, S, s, ?_⟩
  exact PoS.two (k := fun d S => .ok .nx (S.st i (.val d))) po fun d w1 S1 H1 st1 s1 po1 v r => po1 w1 (σ.set i (some v)) H1 (Step.setVal ..) (s1.setVal r)
theorem ms_own {i : Nat} {x : Str} {pos' : Pos} {mc : M Cell} (hN : X.N.Nodup) (hi : X.N[i]? = some x) (hx : Loc X.env.scope x) (h : PE X e (TC (cg X) E mc)) (hs : swapsWith e (some (.Name x pos')) pos.line X.env = pure false := by rfl)
    (hf : X.fn x = true ∨ X.env.scope.names.lookup x = some .local := by first | exact .inl rfl | exact .inr rfl | assumption) : PS X (.Assign [.Name x pos'] e pos) (TSm (cg X) E (ownM i mc)) := by
  refine PS.weak (ps_set hN hi hx h hs hf) fun Dn σ H ⟨w, S, s, po⟩ => ⟨w, S, s, ?_⟩
  have po : PoS (cg X) E ((mc S).bind fun x S => .ok .nx (S.st i (.own x))) w S σ H Dn := po
  cases e : mc S with
  | ok y S' =>
    rw [e] at po
    intro w' H' st' s' p hp hc hf' hm
    exact po w' (σ.set i (some (.ref p))) H' (Step.setOwn st' hp) (s'.setOwn hc hf' hm)
  | exc C fs S' => rw [e] at po; exact po
  | stuck => rw [e] at po; exact po

/-! ### while -/
def whN (t : M Bool) (b : M Fl) : Nat → M Fl
  | 0 => nope
  | n + 1 => bd t fun k => if k = true then bd b fun f => match f with
      | .nx => whN t b n
      | .ct => whN t b n
      | .bk => ret .nx
      | .rt d => ret (.rt d)
    else ret .nx
open Classical in
noncomputable def whM (t : M Bool) (b : M Fl) : M Fl := fun S => if h : ∃ n, whN t b n S ≠ .stuck then whN t b (choose h) S else .stuck
theorem whN_more (t : M Bool) (b : M Fl) : ∀ (n : Nat) (S : Sg), whN t b n S ≠ .stuck → whN t b (n + 1) S = whN t b n S
  | 0, S, h => absurd rfl h
  | n + 1, S, h => by
    have e1 : ∀ k, whN t b (k + 1) S = (t S).bind fun q => if q = true then bd b fun f => match f with
      | .nx => whN t b k
      | .ct => whN t b k
      | .bk => ret .nx
      | .rt d => ret (.rt d)
    else ret .nx := fun _ => rfl
    rw [e1 n] at h
    rw [e1 n, e1 (n + 1)]
    cases et : t S with
    | ok q S1 =>
      rw [et] at h
      cases q with
      | false => rfl
      | true =>
        have h' : (b S1).bind (fun f => match f with
          | .nx => whN t b n
          | .ct => whN t b n
          | .bk => ret .nx
          | .rt d => ret (.rt d)) ≠ .stuck := h
        show (b S1).bind (fun f => match f with
          | .nx => whN t b (n + 1)
          | .ct => whN t b (n + 1)
          | .bk => ret .nx
          | .rt d => ret (.rt d)) = (b S1).bind (fun f => match f with
          | .nx => whN t b n
          | .ct => whN t b n
          | .bk => ret .nx
          | .rt d => ret (.rt d))
        cases eb : b S1 with
        | ok f S2 =>
          rw [eb] at h'
          cases f with
          | nx => exact whN_more t b n S2 h'
          | ct => exact whN_more t b n S2 h'
          | bk => rfl
          | rt d => rfl
        | exc C fs S2 => rfl
        | stuck => rfl
    | exc C fs S1 => rfl
    | stuck => rfl
theorem whN_le (t : M Bool) (b : M Fl) {n k : Nat} {S : Sg} (h : whN t b n S ≠ .stuck) (l : n ≤ k) : whN t b k S = whN t b n S := by
  induction l with
  | refl => rfl
  | @step m l ih => rw [whN_more t b m S (by rw [ih]; exact h), ih]
theorem whM_of {t : M Bool} {b : M Fl} {n : Nat} {S : Sg} (h : whN t b n S ≠ .stuck) : whM t b S = whN t b n S := by
  have hx : ∃ n, whN t b n S ≠ .stuck := ⟨n, h⟩
  unfold whM
  rw [dif_pos hx]
  have hc := Classical.choose_spec hx
  rcases Nat.le_total n (Classical.choose hx) with l | l
  · exact whN_le t b h l
  · exact (whN_le t b hc l).symm
theorem whM_step {t : M Bool} {b : M Fl} {S : Sg} : whM t b S = (t S).bind fun q => if q = true then bd b fun f => match f with
      | .nx => whM t b
      | .ct => whM t b
      | .bk => ret .nx
      | .rt d => ret (.rt d)
    else ret .nx := by
  have e1 : ∀ k, whN t b (k + 1) S = (t S).bind fun q => if q = true then bd b fun f => match f with
      | .nx => whN t b k
      | .ct => whN t b k
      | .bk => ret .nx
      | .rt d => ret (.rt d)
    else ret .nx := fun _ => rfl
  by_cases hx : ∃ n, whN t b n S ≠ .stuck
  · obtain ⟨n, hn⟩ := hx
    cases n with
    | zero => exact absurd rfl hn
    | succ n =>
      rw [whM_of hn, e1 n]
      rw [e1 n] at hn
      cases et : t S with
      | ok q S1 =>
        rw [et] at hn
        cases q with
        | false => rfl
        | true =>
          have h' : (b S1).bind (fun f => match f with
            | .nx => whN t b n
            | .ct => whN t b n
            | .bk => ret .nx
            | .rt d => ret (.rt d)) ≠ .stuck := hn
          show (b S1).bind (fun f => match f with
            | .nx => whN t b n
            | .ct => whN t b n
            | .bk => ret .nx
            | .rt d => ret (.rt d)) = (b S1).bind (fun f => match f with
            | .nx => whM t b
            | .ct => whM t b
            | .bk => ret .nx
            | .rt d => ret (.rt d))
          cases eb : b S1 with
          | ok f S2 =>
            rw [eb] at h'
            cases f with
            | nx => exact (whM_of h').symm
            | ct => exact (whM_of h').symm
            | bk => rfl
            | rt d => rfl
          | exc C fs S2 => rfl
          | stuck => rfl
      | exc C fs S1 => rfl
      | stuck => rfl
  · have hall : ∀ n, whN t b n S = .stuck := fun n => Classical.byContradiction fun h => hx ⟨n, h⟩
    have hM : whM t b S = .stuck := by unfold whM; rw [dif_neg hx]
    rw [hM]
    cases et : t S with
    | ok q S1 =>
      cases q with
      | false =>
        have z := hall 1
        rw [e1 0, et] at z
        cases z
      | true =>
        have z : ∀ k, (b S1).bind (fun f => match f with
            | .nx => whN t b k
            | .ct => whN t b k
            | .bk => ret .nx
            | .rt d => ret (.rt d)) = .stuck := fun k => by
          have z := hall (k + 1)
          rw [e1 k, et] at z
          exact z
        show R.stuck = (b S1).bind (fun f => match f with
            | .nx => whM t b
            | .ct => whM t b
            | .bk => ret .nx
            | .rt d => ret (.rt d))
        cases eb : b S1 with
        | ok f S2 =>
          have zz : ∀ k, whN t b k S2 = .stuck → True := fun _ _ => trivial
          have no : (∀ k, whN t b k S2 = .stuck) → whM t b S2 = .stuck := fun h => by
            unfold whM
            rw [dif_neg fun ⟨n, hn⟩ => hn (h n)]
          cases f with
          | nx => exact (no fun k => by have y := z k; rw [eb] at y; exact y).symm
          | ct => exact (no fun k => by have y := z k; rw [eb] at y; exact y).symm
          | bk => have y := z 0; rw [eb] at y; cases y
          | rt d => have y := z 0; rw [eb] at y; cases y
        | exc C fs S2 => have y := z 0; rw [eb] at y; cases y
        | stuck => rfl
    | exc C fs S1 =>
      have z := hall 1
      rw [e1 0, et] at z
      cases z
    | stuck => rfl
theorem ms_while {t : Expr} {mt : M Bool} {body : List Stmt} (hp : PassesOwn (model X.prog X.w) X.A X.env X.xe) (ht : PT X t (TB (cg X) E mt)) (hb : PSs X body (TSm (cg X) E b)) : PS X (.While t body [] pos) (TSm (cg X) E (whM mt b)) := by
  refine PS.weak (ps_while hp ht hb) fun Dn σ H ⟨w, S, s, po⟩ => ?_
  have hx : ∃ n, whN mt b n S ≠ .stuck := by
    refine Classical.byContradiction fun hx => ?_
    unfold whM at po
    rw [dif_neg hx] at po
    exact po
  obtain ⟨n, hn⟩ := hx
  rw [whM_of hn] at po
  refine ⟨fun m σ1 H1 => ∃ w1 S1, Sim (cg X) w1 S1 σ1 H1 ∧ PoS (cg X) E (whN mt b m S1) w1 S1 σ1 H1 Dn, ⟨n, w, S, s, po⟩, ?_⟩
  rintro m σ1 H1 ⟨w1, S1, s1, po1⟩
  cases m with
  | zero => exact po1.elim
  | succ m =>
    refine ⟨w1, S1, s1, ?_⟩
    refine PoS.two (m := mt S1) (k := fun k => if k = true then bd b fun f => match f with
      | .nx => whN mt b m
      | .ct => whN mt b m
      | .bk => ret .nx
      | .rt d => ret (.rt d)
    else ret .nx) po1 fun k w2 S2 H2 st2 s2 po2 => ?_
    cases k with
    | false => exact PoS.here (E := E) (f := .nx) s2 po2
    | true =>
      rw [if_pos rfl]
      have po2 : PoS (cg X) E ((b S2).bind fun f => match f with
        | .nx => whN mt b m
        | .ct => whN mt b m
        | .bk => ret .nx
        | .rt d => ret (.rt d)) w2 S2 σ1 H2 Dn := po2
      refine ⟨fun σ3 H3 => ∃ m', m' < m + 1 ∧ ∃ w3 S3, Sim (cg X) w3 S3 σ3 H3 ∧ PoS (cg X) E (whN mt b m' S3) w3 S3 σ3 H3 Dn, fun σ' H' h => h, w2, S2, s2, ?_⟩
      refine PoS.seq po2 fun f w3 S3 σ3 H3 st3 s3 po3 => ?_
      cases f with
      | nx => exact ⟨m, Nat.lt_succ_self m, w3, S3, s3, po3⟩
      | ct => exact ⟨m, Nat.lt_succ_self m, w3, S3, s3, po3⟩
      | bk => exact PoS.here (E := E) (f := .nx) s3 po3
      | rt d => exact PoS.here (E := E) (f := .rt d) s3 po3
end

/-! ### targets: names, tuples of them -/
inductive Tg where
  | nm (i : Nat) | tp (ts : List Tg)
mutual
def asg : Tg → D → Sg → Option Sg
  | .nm i, d, S => some (S.st i (.val d))
  | .tp ts, d, S => match vwD S d with
    | some (_, ds) => asgs ts ds S
    | none => none
def asgs : List Tg → List D → Sg → Option Sg
  | [], [], S => some S
  | t :: ts, d :: ds, S => match asg t d S with
    | some S1 => asgs ts ds S1
    | none => none
  | [], _ :: _, _ => none
  | _ :: _, [], _ => none
end
mutual
def Tg.ix : Tg → List Nat
  | .nm i => [i]
  | .tp ts => Tg.ixs ts
def Tg.ixs : List Tg → List Nat
  | [] => []
  | t :: ts => t.ix ++ Tg.ixs ts
end
structure Set1 (c : Gm) (ix : List Nat) (w : Wd) (S : Sg) (σ : FSt) (H : Hp) (S' : Sg) (σ' : FSt) : Prop where
  sim : Sim c w S' σ' H
  st : Step w S σ H w S' σ' H
  out : ∀ i, i ∉ ix → σ'[i]? = σ[i]?
  len : σ'.length = σ.length
def gT (c : Gm) (T : Tg) : TG := fun v σ H Q => ∃ w S d S', Sim c w S σ H ∧ Rep c w d v ∧ asg T d S = some S' ∧ ∀ σ', Set1 c T.ix w S σ H S' σ' → Q σ' H
def gTs (c : Gm) (Ts : List Tg) : TGs := fun vs σ H Q => ∃ w S ds S', Sim c w S σ H ∧ Reps c w ds vs ∧ asgs Ts ds S = some S' ∧ ∀ σ', Set1 c (Tg.ixs Ts) w S σ H S' σ' → Q σ' H
theorem PG.weak {X : Cx} {e : Expr} {t t' : TG} (h : PG X e t) (k : ∀ v σ H Q, t' v σ H Q → t v σ H Q) : PG X e t' := ⟨fun pins s σ H v u Q I r q => h.run pins s σ H v u Q I r (k v σ H Q q)⟩
theorem PGs.weak {X : Cx} {e : List Expr} {t t' : TGs} (h : PGs X e t) (k : ∀ v σ H Q, t' v σ H Q → t v σ H Q) : PGs X e t' := ⟨fun pins s σ H v u Q I r q => h.run pins s σ H v u Q I r (k v σ H Q q)⟩
theorem PG.or {X : Cx} {e : Expr} {t t' : TG} (h : PG X e t) (h' : PG X e t') : PG X e (fun v σ H Q => t v σ H Q ∨ t' v σ H Q) := ⟨fun pins s σ H v u Q I r q => q.elim (h.run pins s σ H v u Q I r) (h'.run pins s σ H v u Q I r)⟩
section
variable {X : Cx} {pos : Pos}
theorem mg_nm (i : Nat) {x : Str} (hN : X.N.Nodup) (hi : X.N[i]? = some x := by rfl) (hx : Loc X.env.scope x := by first | exact Or.inl rfl | exact Or.inr rfl) (hf : X.fn x = true ∨ X.env.scope.names.lookup x = some .local := by first | exact .inl rfl | exact .inr rfl) : PG X (.Name x pos) (gT (cg X) (.nm i)) := by
  refine PG.weak (pg_name hN hi hx hf) fun v σ H Q ⟨w, S, d, S', s, r, e, q⟩ => ?_
  simp only [asg] at e
  cases e
  refine q _ ⟨s.setVal r, Step.setVal .., fun j hj => ?_, by rw [List.length_set]⟩
  have hj : j ≠ i := fun z => hj (by rw [z]; simp only [Tg.ix]; exact List.mem_singleton.mpr rfl)
  rw [List.getElem?_set_ne (Ne.symm hj)]
theorem mgs_nil : PGs X [] (gTs (cg X) []) := by
  refine PGs.weak pgs_nil fun vs σ H Q ⟨w, S, ds, S', s, r, e, q⟩ => ?_
  cases ds with
  | nil =>
    simp only [asgs] at e; cases e
    exact ⟨reps_nil.mp r, q σ ⟨s, .refl .., fun _ _ => rfl, rfl⟩⟩
  | cons d ds => simp only [asgs] at e; cases e
theorem mgs_cons {e : Expr} {es : List Expr} {T : Tg} {Ts : List Tg} (h1 : PG X e (gT (cg X) T)) (h2 : PGs X es (gTs (cg X) Ts)) (hs : (assignEach (e :: es) X.env).map (·.2) = assign e X.env :: (assignEach es X.env).map (·.2) := by rfl) : PGs X (e :: es) (gTs (cg X) (T :: Ts)) := by
  refine PGs.weak (pgs_cons h1 h2 hs) fun vs σ H Q ⟨w, S, ds, S', s, r, e, q⟩ => ?_
  cases ds with
  | nil => simp only [asgs] at e; cases e
  | cons d ds =>
    obtain ⟨v, t, rfl, r1, r2⟩ := reps_cons.mp r
    simp only [asgs] at e
    cases e1 : asg T d S with
    | none => rw [e1] at e; cases e
    | some S1 =>
      rw [e1] at e
      refine ⟨v, t, rfl, w, S, d, S1, s, r1, e1, fun σ1 k1 => ?_⟩
      refine ⟨w, S1, ds, S', k1.sim, r2, e, fun σ2 k2 => ?_⟩
      refine q σ2 ⟨k2.sim, k1.st.trans k2.st, fun i hi => ?_, k2.len.trans k1.len⟩
      simp only [Tg.ixs, List.mem_append, not_or] at hi
      rw [k2.out i hi.2, k1.out i hi.1]
theorem mg_tp {es : List Expr} {k n : Nat} {Ts : List Tg} (hc : X.calm = true) (h : PGs X es (gTs (cg X) Ts)) (hn : (assignEach es X.env).length = n := by rfl) (hl : Ts.length = n := by rfl) (hst : (assignEach es X.env).findIdx? (·.1) = none := by rfl) : PG X (.Tuple es k pos) (gT (cg X) (.tp Ts)) := by
  refine PG.weak (PG.or (pg_tup hc h hn hst) (pg_lst hc h hn hst)) fun v σ H Q ⟨w, S, d, S', s, r, e, q⟩ => ?_
  simp only [asg] at e
  cases ev : vwD S d with
  | none => rw [ev] at e; cases e
  | some x =>
    obtain ⟨b, ds⟩ := x
    rw [ev] at e
    have e : asgs Ts ds S = some S' := e
    obtain ⟨a, vs, rfl, k1, k2⟩ := vwR_of s r ev
    have hlen : ∀ (Ts : List Tg) (ds : List D) (S S' : Sg), asgs Ts ds S = some S' → Ts.length = ds.length := by
      intro Ts
      induction Ts with
      | nil =>
        intro ds S S' e
        cases ds with
        | nil => rfl
        | cons _ _ => simp only [asgs] at e; cases e
      | cons T Ts ih =>
        intro ds S S' e
        cases ds with
        | nil => simp only [asgs] at e; cases e
        | cons d ds =>
          simp only [asgs] at e
          cases e1 : asg T d S with
          | none => rw [e1] at e; cases e
          | some S1 =>
            rw [e1] at e
            simp only [List.length_cons, ih ds S1 S' e]
    have hvl : vs.length = n := by rw [← k2.length, ← hlen Ts ds S S' e]; exact hl
    have q' : gTs (cg X) Ts vs σ H Q := ⟨w, S, ds, S', s, k2, e, fun σ' k => q σ' ⟨k.sim, k.st, fun i hi => k.out i (by simpa only [Tg.ix] using hi), k.len⟩⟩
    cases b with
    | true => exact .inr ⟨a, vs, rfl, seqL_t k1, hvl, q'⟩
    | false => exact .inl ⟨a, vs, rfl, seqL_f k1, hvl, q'⟩
end

/-! ### what is walked -/
/-- what is walked: the items, and what must stand at each turn -/
structure Src where
  ds : List D
  ok : Sg → Prop
def SrcOk (c : Gm) (w0 : Wd) (J : It) (s : Src) : Prop := ∀ i w S σ H, Le w0 w → Sim c w S σ H → s.ok S →
  (∀ d, s.ds[i]? = some d → J.go i H ∧ ∀ x H', J.yld i H x H' → ∃ w', Step w S σ H w' S σ H' ∧ Sim c w' S σ H' ∧ Rep c w' d x) ∧ (s.ds.length ≤ i → J.stop i H)
def TIm (c : Gm) (E : XK) (src : M Src) : TI := fun σ H R => ∃ w S, Sim c w S σ H ∧ Po c E (src S) w S σ H fun ds w' _ H' => ∀ J, SrcOk c w' J ds → R J H'
def always : Sg → Prop := fun _ => True
def itemsD (d : D) : M Src := fun S => match vwD S d with
  | some x => .ok ⟨x.2, fun S' => vwD S' d = some x⟩ S
  | none => .stuck
def iSeq (K : PySem.W.Frag) (tl : TE) : TI := fun σ H R => tl σ H fun x H1 => ∃ a, x = .ref a ∧ (((∃ xs, SqL K H1 a xs) ∧ R (Itl K a) H1) ∨ ((∃ xs, SqT K H1 a xs) ∧ R (Itt K a) H1))
theorem pi_seq {X : Cx} {tg l : Expr} {tl : TE} (hl : PE X l tl) : PI X tg l (iSeq X.K tl) := by
  refine ⟨fun pins s σ H R I h => ?_⟩
  refine thn (hl.run pins s σ H _ I h) fun v s1 ⟨x, H1, I1, r1, a, e, q⟩ => ?_
  have z : iList X.K (fun _ _ Q => Q x H1) σ H1 R ∨ iTup X.K (fun _ _ Q => Q x H1) σ H1 R := by
    rcases q with ⟨hq, q⟩ | ⟨hq, q⟩
    · exact .inl ⟨a, e, hq, q⟩
    · exact .inr ⟨a, e, hq, q⟩
  subst e
  cases r1
  rcases q with ⟨⟨xs, hq⟩, q⟩ | ⟨⟨xs, hq⟩, q⟩
  · obtain ⟨its, rv, p, hz⟩ := I1.list hq
    refine wpAny_pyIter_list p.isList ?_
    refine ⟨s1.heap.objs.size, [s1.heap.objs.size], _, _, H1, rfl, I1.kept (t' := s1.toks) fun b o e => Heap.get?_push_of_some _ e, turn_list a _, ⟨_, Heap.get?_push_size _ rfl, rfl, rfl⟩, fun b hb => ?_, q⟩
    have e : b = s1.heap.objs.size := by simpa using hb
    subst e
    exact I1.fpOk (Nat.le_refl _) (I1.hok.fresh (Nat.le_refl _))
  · obtain ⟨its, rv, p, hz⟩ := I1.tuple hq
    refine wpAny_pyIter_tuple (show s1.heap.IsTuple a its.toArray from p) ?_
    refine ⟨s1.heap.objs.size, [s1.heap.objs.size], _, _, H1, rfl, I1.kept (t' := s1.toks) fun b o e => Heap.get?_push_of_some _ e, turn_tuple a _, ⟨_, Heap.get?_push_size _ rfl, rfl, rfl⟩, fun b hb => ?_, q⟩
    have e : b = s1.heap.objs.size := by simpa using hb
    subst e
    exact I1.fpOk (Nat.le_refl _) (I1.hok.fresh (Nat.le_refl _))
section
variable {c : Gm} {w0 : Wd} {a : Addr} {vs : List V} {ds : List D}
theorem le_fz {w : Wd} {S : Sg} {σ : FSt} {H : Hp} {o : HO} (h : w0.Hf a = some o) (l : Le w0 w) (s : Sim c w S σ H) : H a = some o := s.fz _ _ (l.hf _ _ h)
theorem src_seq {d : D} {x : Vw} (h : Rep c w0 d (.ref a)) (J : It) (hJ : J = if x.1 = true then Itl c.K a else Itt c.K a) : SrcOk c w0 J ⟨x.2, fun S' => vwD S' d = some x⟩ := fun i w S σ H l s hx => by
  subst hJ
  obtain ⟨a', vs, e, k1, k2⟩ := vwR_of s (Rep.mono l _ _ h) hx
  cases e
  obtain ⟨b, ds⟩ := x
  cases b with
  | true =>
    have hs : SqL c.K H a vs := .inl (.inl k1)
    refine ⟨fun d hd => ?_, fun hi => ⟨vs, hs, by rw [← k2.length]; exact hi⟩⟩
    obtain ⟨v, hv, rv⟩ := k2.get hd
    refine ⟨⟨vs, v, hs, hv⟩, fun x H' y => ?_⟩
    obtain ⟨e, y⟩ := y
    subst e
    have z := y vs hs
    rw [hv] at z; cases z
    exact ⟨w, .refl .., s, rv⟩
  | false =>
    have hs : SqT c.K H a vs := .inl (.inl k1)
    refine ⟨fun d hd => ?_, fun hi => ⟨vs, hs, by rw [← k2.length]; exact hi⟩⟩
    obtain ⟨v, hv, rv⟩ := k2.get hd
    refine ⟨⟨vs, v, hs, hv⟩, fun x H' y => ?_⟩
    obtain ⟨e, y⟩ := y
    subst e
    have z := y vs hs
    rw [hv] at z; cases z
    exact ⟨w, .refl .., s, rv⟩
def rngD (lo : Int) (n : Nat) : List D := (List.range n).map fun i => D.int (lo + (i : Nat))
theorem rngD_get {lo : Int} {n i : Nat} {d : D} (h : (rngD lo n)[i]? = some d) : i < n ∧ d = .int (lo + (i : Nat)) := by
  unfold rngD at h
  rw [List.getElem?_map] at h
  obtain ⟨k, hk, e⟩ := Option.map_eq_some_iff.mp h
  obtain ⟨h1, h2⟩ := List.getElem?_eq_some_iff.mp hk
  rw [List.getElem_range] at h2
  subst h2
  rw [List.length_range] at h1
  exact ⟨h1, e.symm⟩
theorem src_rng {lo : Int} {n : Nat} : SrcOk c w0 (Itr lo n) ⟨rngD lo n, always⟩ := fun i w S σ H l s _ => by
  refine ⟨fun d hd => ?_, fun hi => ?_⟩
  · obtain ⟨h1, rfl⟩ := rngD_get hd
    refine ⟨h1, fun x H' y => ?_⟩
    obtain ⟨e, y⟩ := y
    subst e
    exact ⟨w, .refl .., s, by rw [y]; exact of_int⟩
  · show n ≤ i
    simpa [rngD] using hi
end
section
variable {X : Cx} {E : XK} {pos p : Pos} {tg e a b : Expr} {m : M D} {ms : M (List D)}
theorem mi_seq (h : PE X e (TM (cg X) E m)) : PI X tg e (TIm (cg X) E (bd m itemsD)) := by
  refine PI.weak (pi_seq h) fun σ H R ⟨w, S, s, po⟩ => ⟨w, S, s, ?_⟩
  refine Po.two (k := itemsD) po fun d w1 S1 H1 st1 s1 po1 v r => ?_
  unfold itemsD at po1
  cases ev : vwD S1 d with
  | none => rw [ev] at po1; exact po1.elim
  | some x =>
    rw [ev] at po1
    obtain ⟨a, vs, rfl, k1, k2⟩ := vwR_of s1 r ev
    refine ⟨a, rfl, ?_⟩
    obtain ⟨b, ds⟩ := x
    cases b with
    | true => exact .inl ⟨⟨vs, .inl (.inl k1)⟩, po1 w1 H1 (.refl ..) s1 _ (src_seq r _ rfl)⟩
    | false => exact .inr ⟨⟨vs, .inl (.inl k1)⟩, po1 w1 H1 (.refl ..) s1 _ (src_seq r _ rfl)⟩
def rng1 : D → M Src
  | .int j => if -(2 ^ 62) ≤ j ∧ j < 2 ^ 62 then ret ⟨rngD 0 j.toNat, always⟩ else nope
  | _ => nope
def rng2 : D → D → M Src
  | .int i, .int j => if -(2 ^ 62) ≤ i ∧ i < 2 ^ 62 ∧ -(2 ^ 62) ≤ j ∧ j < 2 ^ 62 then ret ⟨rngD i (j - i).toNat, always⟩ else nope
  | _, _ => nope
theorem mi_range1 (hg : Gl X "range") (hm : X.mg "range" = none) (ha : PE X a (TM (cg X) E m)) (hs : starEach [a] X.env = [(false, eval a X.env)] := by rfl) : PI X tg (.Call (.Name "range" p) [a] [] pos) (TIm (cg X) E (bd m rng1)) := by
  refine PI.weak (pi_range1 hg hm (pa_cons ha pa_nil hs) hs) fun σ H R ⟨w, S, s, po⟩ => ?_
  refine ⟨w, S, s, Po.two (k := rng1) po fun d w1 S1 H1 st1 s1 po1 v r => ?_⟩
  cases d with
  | int j =>
    have po1 : Po (cg X) E ((if -(2 ^ 62) ≤ j ∧ j < 2 ^ 62 then ret ⟨rngD 0 j.toNat, always⟩ else nope : M Src) S1) w1 S1 σ H1 _ := po1
    by_cases z : -(2 ^ 62) ≤ j ∧ j < 2 ^ 62
    · rw [if_pos z] at po1
      exact ⟨j, by rw [rep_int r], z.1, z.2, po1 w1 H1 (.refl ..) s1 _ src_rng⟩
    · rw [if_neg z] at po1; exact po1.elim
  | _ => exact po1.elim
theorem mi_range2 {mb : M D} (hg : Gl X "range") (hm : X.mg "range" = none) (ha : PE X a (TM (cg X) E m)) (hb : PE X b (TM (cg X) E mb)) (hs : starEach [a, b] X.env = [(false, eval a X.env), (false, eval b X.env)] := by rfl) (hs2 : starEach [b] X.env = [(false, eval b X.env)] := by rfl) :
    PI X tg (.Call (.Name "range" p) [a, b] [] pos) (TIm (cg X) E (bd m fun x => bd mb fun y => rng2 x y)) := by
  refine PI.weak (pi_range2 hg hm (pa_cons ha (pa_cons hb pa_nil hs2) (by rw [hs, hs2])) hs hs2) fun σ H R ⟨w, S, s, po⟩ => ?_
  refine ⟨w, S, s, Po.two (k := fun x => bd mb fun y => rng2 x y) po fun d w1 S1 H1 st1 s1 po1 v r => ?_⟩
  refine ⟨w1, S1, s1, Po.two (k := fun y => rng2 d y) po1 fun d2 w2 S2 H2 st2 s2 po2 v2 r2 => ?_⟩
  have r := Rep.mono st2.le _ _ r
  cases d with
  | int i =>
    cases d2 with
    | int j =>
      have po2 : Po (cg X) E ((if -(2 ^ 62) ≤ i ∧ i < 2 ^ 62 ∧ -(2 ^ 62) ≤ j ∧ j < 2 ^ 62 then ret ⟨rngD i (j - i).toNat, always⟩ else nope : M Src) S2) w2 S2 σ H2 _ := po2
      by_cases z : -(2 ^ 62) ≤ i ∧ i < 2 ^ 62 ∧ -(2 ^ 62) ≤ j ∧ j < 2 ^ 62
      · rw [if_pos z] at po2
        exact ⟨i, j, by rw [rep_int r, rep_int r2], z, po2 w2 H2 (.refl ..) s2 _ src_rng⟩
      · rw [if_neg z] at po2; exact po2.elim
    | _ => exact po2.elim
  | _ => exact po2.elim
/-! ### for -/
/-- the turns, with nothing to be looked at -/
def forL (T : Tg) (b : M Fl) : List D → M Fl
  | [] => ret .nx
  | d :: ds => fun S => match asg T d S with
    | none => .stuck
    | some S1 => (b S1).bind fun f => match f with
      | .nx => forL T b ds
      | .ct => forL T b ds
      | .bk => ret .nx
      | .rt d => ret (.rt d)
open Classical in
noncomputable def forG (T : Tg) (b : M Fl) (ok : Sg → Prop) : List D → M Fl
  | [] => fun S => if ok S then .ok .nx S else .stuck
  | d :: ds => fun S => if ok S then (match asg T d S with
    | none => .stuck
    | some S1 => (b S1).bind fun f => match f with
      | .nx => forG T b ok ds
      | .ct => forG T b ok ds
      | .bk => ret .nx
      | .rt d => ret (.rt d)) else .stuck
theorem forG_L {T : Tg} {b : M Fl} {ok : Sg → Prop} (h : ∀ S, ok S) : ∀ (ds : List D), forG T b ok ds = forL T b ds
  | [] => by funext S; simp only [forG, forL, if_pos (h S)]; rfl
  | d :: ds => by
    funext S
    simp only [forG, forL, if_pos (h S), forG_L h ds]
noncomputable def forM (T : Tg) (b : M Fl) (s : Src) : M Fl := forG T b s.ok s.ds
theorem ms_for {iter : Expr} {body : List Stmt} {src : M Src} {T : Tg} {bm : M Fl} (hp : PassesOwn (model X.prog X.w) X.A X.env X.xe) (hc : X.calm = true) (hi : PI X tg iter (TIm (cg X) E src)) (hg : PG X tg (gT (cg X) T)) (hb : PSs X body (TSm (cg X) E bm))
    (hs : ∀ x, foldedSetIterable iter X.env x = pure x := by intro _; rfl) : PS X (.For tg iter body [] pos) (TSm (cg X) E (bd src (Mm.forM T bm))) := by
  refine PS.weak (ps_for hp hc hi hg hb hs) fun Dn σ H ⟨w, S, s, po⟩ => ?_
  refine ⟨w, S, s, PoS.two (k := Mm.forM T bm) po fun sr w1 S1 H1 st1 s1 po1 J hJ => ?_⟩
  obtain ⟨ds, ok⟩ := sr
  refine ⟨fun i m σ2 H2 => m = ds.length - i ∧ i ≤ ds.length ∧ ∃ w2 S2, Le w1 w2 ∧ Sim (cg X) w2 S2 σ2 H2 ∧ PoS (cg X) E (forG T bm ok (ds.drop i) S2) w2 S2 σ2 H2 Dn, ⟨ds.length, by simp, Nat.zero_le _, w1, S1, .refl _, s1, po1⟩, ?_⟩
  rintro i m σ2 H2 ⟨rfl, hi, w2, S2, l2, s2, po2⟩
  have hok : ok S2 := by
    refine Classical.byContradiction fun z => ?_
    cases e : ds.drop i with
    | nil => rw [e] at po2; simp only [forG, if_neg z] at po2; exact po2
    | cons d t => rw [e] at po2; simp only [forG, if_neg z] at po2; exact po2
  obtain ⟨go, stop⟩ := hJ i w2 S2 σ2 H2 l2 s2 hok
  by_cases hlt : i < ds.length
  · have hd : ds[i]? = some ds[i] := List.getElem?_eq_getElem hlt
    obtain ⟨g1, g2⟩ := go _ hd
    refine .inr ⟨g1, fun σ3 H3 => ∃ m', m' < ds.length - i ∧ (m' = ds.length - (i + 1) ∧ i + 1 ≤ ds.length ∧ ∃ w2 S2, Le w1 w2 ∧ Sim (cg X) w2 S2 σ3 H3 ∧ PoS (cg X) E (forG T bm ok (ds.drop (i + 1)) S2) w2 S2 σ3 H3 Dn), fun _ _ h => h, fun x H' y => ?_⟩
    obtain ⟨w3, st3, s3, r3⟩ := g2 x H' y
    rw [List.drop_eq_getElem_cons hlt] at po2
    simp only [forG, if_pos hok] at po2
    cases ea : asg T ds[i] S2 with
    | none => simp only [ea] at po2; exact po2.elim
    | some S4 =>
      simp only [ea] at po2
      refine ⟨w3, S2, ds[i], S4, s3, r3, ea, fun σ4 k4 => ?_⟩
      have po3 := PoS.rebase (st3.trans k4.st) po2
      refine ⟨w3, S4, k4.sim, PoS.seq po3 fun f w5 S5 σ5 H5 st5 s5 po5 => ?_⟩
      have l5 : Le w1 w5 := (l2.trans st3.le).trans st5.le
      cases f with
      | nx => exact ⟨_, by omega, rfl, hlt, w5, S5, l5, s5, po5⟩
      | ct => exact ⟨_, by omega, rfl, hlt, w5, S5, l5, s5, po5⟩
      | bk => exact PoS.here (E := E) (f := .nx) s5 po5
      | rt d => exact PoS.here (E := E) (f := .rt d) s5 po5
  · have e : i = ds.length := by omega
    subst e
    refine .inl ⟨stop (Nat.le_refl _), ?_⟩
    rw [List.drop_length] at po2
    simp only [forG, if_pos hok] at po2
    exact PoS.here (E := E) (f := .nx) s2 po2
end
end Mm
end

section
/-! MmF: comprehensions, what is walked in pairs, what changes in place, attributes, defs and their calls. -/
namespace Mm
open PySem L2

/-! ### comprehensions -/
def wipeL (sl : List Slot) : List Nat → List Slot
  | [] => sl
  | v :: vs => (wipeL sl vs).set v .emp
def resL (a b : List Slot) : List Nat → List Slot
  | [] => b
  | v :: vs => (resL a b vs).set v (a.getD v .emp)
def noOwn (sl : List Slot) (vs : List Nat) : Bool := vs.all fun v => match sl[v]? with | some (.own _) => false | _ => true
def inner (vs : List Nat) (S : Sg) : Sg := ⟨wipeL S.sl vs, S.g⟩
def outer (vs : List Nat) (S S' : Sg) : Sg := ⟨resL S.sl S'.sl vs, S'.g⟩
theorem wipeL_len (sl : List Slot) : ∀ vs, (wipeL sl vs).length = sl.length
  | [] => rfl
  | v :: vs => by unfold wipeL; rw [List.length_set, wipeL_len sl vs]
theorem resL_len (a b : List Slot) : ∀ vs, (resL a b vs).length = b.length
  | [] => rfl
  | v :: vs => by unfold resL; rw [List.length_set, resL_len a b vs]
theorem wipeL_in {sl : List Slot} {i : Nat} : ∀ {vs : List Nat}, i ∈ vs → i < sl.length → (wipeL sl vs)[i]? = some .emp
  | v :: vs, h, hl => by
    unfold wipeL
    by_cases e : i = v
    · subst e; rw [List.getElem?_set_self (by rw [wipeL_len]; exact hl)]
    · rw [List.getElem?_set_ne (Ne.symm e)]
      exact wipeL_in ((List.mem_cons.mp h).resolve_left e) hl
theorem wipeL_out {sl : List Slot} {i : Nat} : ∀ {vs : List Nat}, i ∉ vs → (wipeL sl vs)[i]? = sl[i]?
  | [], _ => rfl
  | v :: vs, h => by
    unfold wipeL
    rw [List.getElem?_set_ne fun e => h (by rw [e]; exact List.mem_cons_self)]
    exact wipeL_out fun z => h (List.mem_cons_of_mem _ z)
theorem resL_in {a b : List Slot} {i : Nat} : ∀ {vs : List Nat}, i ∈ vs → i < b.length → (resL a b vs)[i]? = some (a.getD i .emp)
  | v :: vs, h, hl => by
    unfold resL
    by_cases e : i = v
    · subst e; rw [List.getElem?_set_self (by rw [resL_len]; exact hl)]
    · rw [List.getElem?_set_ne (Ne.symm e)]
      exact resL_in ((List.mem_cons.mp h).resolve_left e) hl
theorem resL_out {a b : List Slot} {i : Nat} : ∀ {vs : List Nat}, i ∉ vs → (resL a b vs)[i]? = b[i]?
  | [], _ => rfl
  | v :: vs, h => by
    unfold resL
    rw [List.getElem?_set_ne fun e => h (by rw [e]; exact List.mem_cons_self)]
    exact resL_out fun z => h (List.mem_cons_of_mem _ z)
theorem wipe_in {σ : FSt} {i : Nat} : ∀ {vs : List Nat}, i ∈ vs → ∀ v, ¬ slotV (wipe σ vs) i v := fun {vs} h v z => (wipe_some z).2 h
theorem wipe_out' {σ : FSt} {i : Nat} : ∀ {vs : List Nat}, i ∉ vs → (wipe σ vs)[i]? = σ[i]?
  | [], _ => rfl
  | v :: vs, h => by
    unfold wipe
    rw [List.getElem?_set_ne fun e => h (by rw [e]; exact List.mem_cons_self)]
    exact wipe_out' fun z => h (List.mem_cons_of_mem _ z)
section
variable {c : Gm} {w w' : Wd} {S S' : Sg} {σ σ' : FSt} {H H' : Hp} {vs : List Nat}
theorem inner_own {i : Nat} {x : Cell} (hl : S.sl.length = σ.length) (e : (inner vs S).sl[i]? = some (.own x)) : i ∉ vs ∧ S.sl[i]? = some (.own x) := by
  have e : (wipeL S.sl vs)[i]? = some (.own x) := e
  by_cases h : i ∈ vs
  · have hi : i < S.sl.length := by
      have := (List.getElem?_eq_some_iff.mp e).1
      rwa [wipeL_len] at this
    rw [wipeL_in h hi] at e; cases e
  · rw [wipeL_out h] at e; exact ⟨h, e⟩
theorem inner_mu (hl : S.sl.length = σ.length) {a : Addr} (m : Mu w (inner vs S) (wipe σ vs) a) : Mu w S σ a := by
  rcases m with m | ⟨i, x, e, k⟩
  · exact .inl m
  · obtain ⟨_, e2⟩ := inner_own hl e
    exact .inr ⟨i, x, e2, (wipe_some k).1⟩
theorem Sim.inner (s : Sim c w S σ H) : Sim c w (Mm.inner vs S) (wipe σ vs) H where
  n := s.n
  fz := s.fz
  cell := s.cell
  inj := s.inj
  len := by show (wipeL S.sl vs).length = (wipe σ vs).length; rw [wipeL_len, wipe_length]; exact s.len
  val := fun i d e => by
    have e : (wipeL S.sl vs)[i]? = some (.val d) := e
    by_cases h : i ∈ vs
    · have hi : i < S.sl.length := by
        have := (List.getElem?_eq_some_iff.mp e).1
        rwa [wipeL_len] at this
      rw [wipeL_in h hi] at e; cases e
    · rw [wipeL_out h] at e
      obtain ⟨v, k1, k2⟩ := s.val i d e
      exact ⟨v, (wipe_out' h).trans k1, k2⟩
  own := fun i x e => by
    obtain ⟨h, e⟩ := inner_own s.len e
    obtain ⟨p, k1, k2⟩ := s.own i x e
    exact ⟨p, (wipe_out' h).trans k1, k2⟩
  ownInj := fun i j x y p e e' k k' => by
    obtain ⟨_, e⟩ := inner_own s.len e
    obtain ⟨_, e'⟩ := inner_own s.len e'
    exact s.ownInj i j x y p e e' (wipe_some k).1 (wipe_some k').1
theorem Step.inner (s : Sim c w S σ H) : Step w S σ H w (Mm.inner vs S) (wipe σ vs) H :=
  ⟨.refl w, fun a o h1 h2 h3 => ⟨h1, h2, fun m => h3 (inner_mu s.len m)⟩, fun _ h => h⟩
/-- back from a turn: σ' is σ but for the slots at vs -/
theorem outer_own {i : Nat} {x : Cell} (no : noOwn S.sl vs = true) (e : (outer vs S S').sl[i]? = some (.own x)) : i ∉ vs ∧ S'.sl[i]? = some (.own x) := by
  have e : (resL S.sl S'.sl vs)[i]? = some (.own x) := e
  by_cases h : i ∈ vs
  · have hi : i < S'.sl.length := by
      have := (List.getElem?_eq_some_iff.mp e).1
      rwa [resL_len] at this
    rw [resL_in h hi] at e
    have q := List.all_eq_true.mp no i h
    have e2 : S.sl.getD i .emp = .own x := Option.some.inj e
    rw [List.getD_eq_getElem?_getD] at e2
    cases hs : S.sl[i]? with
    | none => rw [hs] at e2; cases e2
    | some y =>
      rw [hs] at e2 q
      have e3 : y = .own x := e2
      subst e3
      cases q
  · rw [resL_out h] at e; exact ⟨h, e⟩
theorem Sim.outer (s0 : Sim c w S σ H) (no : noOwn S.sl vs = true) (l : Le w w') (s : Sim c w' S' σ' H') (ho : ∀ i, i ∉ vs → σ'[i]? = σ[i]?) (hlen : σ'.length = σ.length) : Sim c w' (Mm.outer vs S S') σ H' where
  n := s.n
  fz := s.fz
  cell := s.cell
  inj := s.inj
  len := by show (resL S.sl S'.sl vs).length = σ.length; rw [resL_len, s.len]; exact hlen
  val := fun i d e => by
    have e : (resL S.sl S'.sl vs)[i]? = some (.val d) := e
    by_cases h : i ∈ vs
    · have hi : i < S'.sl.length := by
        have := (List.getElem?_eq_some_iff.mp e).1
        rwa [resL_len] at this
      rw [resL_in h hi] at e
      have e2 : S.sl.getD i .emp = .val d := Option.some.inj e
      rw [List.getD_eq_getElem?_getD] at e2
      cases hs : S.sl[i]? with
      | none => rw [hs] at e2; cases e2
      | some y =>
        rw [hs] at e2
        have e3 : y = .val d := e2
        subst e3
        obtain ⟨v, k1, k2⟩ := s0.val i d hs
        exact ⟨v, k1, Rep.mono l _ _ k2⟩
    · rw [resL_out h] at e
      obtain ⟨v, k1, k2⟩ := s.val i d e
      exact ⟨v, (ho i h).symm.trans k1, k2⟩
  own := fun i x e => by
    obtain ⟨h, e⟩ := outer_own no e
    obtain ⟨p, k1, k2⟩ := s.own i x e
    exact ⟨p, (ho i h).symm.trans k1, k2⟩
  ownInj := fun i j x y p e e' k k' => by
    obtain ⟨h, e⟩ := outer_own no e
    obtain ⟨h', e'⟩ := outer_own no e'
    exact s.ownInj i j x y p e e' ((ho i h).trans k) ((ho j h').trans k')
theorem Step.outer (no : noOwn S.sl vs = true) (ho : ∀ i, i ∉ vs → σ'[i]? = σ[i]?) : Step w' S' σ' H' w' (Mm.outer vs S S') σ H' :=
  ⟨.refl w', fun a o h1 h2 h3 => ⟨h1, h2, fun m => h3 (by
    rcases m with m | ⟨i, x, e, k⟩
    · exact .inl m
    · obtain ⟨h, e⟩ := outer_own no e
      exact .inr ⟨i, x, e, (ho i h).trans k⟩)⟩, fun _ h => h⟩
/-- nobody's object is written -/
theorem Sim.loose (s : Sim c w S σ H) {p : Addr} {o : HO} (hf : w.Hf p = none) (hm : ¬ Mu w S σ p) : Sim c w S σ (upd H p o) where
  n := s.n
  fz := fun a u e => by rw [upd_ne fun z => by rw [z, hf] at e; cases e]; exact s.fz a u e
  cell := fun r x e => by
    obtain ⟨k1, k2, k3⟩ := s.cell r x e
    exact ⟨k1, k2.mono (.refl w) (upd_ne fun z => hm (.inl ⟨r, x, e, z⟩)), k3⟩
  inj := s.inj
  len := s.len
  val := s.val
  own := fun i x e => by
    obtain ⟨q, k1, k2, k3, k4⟩ := s.own i x e
    exact ⟨q, k1, k2.mono (.refl w) (upd_ne fun z => hm (.inr ⟨i, x, e, by rw [← z]; exact k1⟩)), k3, k4⟩
  ownInj := s.ownInj
end
/-- an exception within a comprehension is not spoken of -/
def noX {α : Type} (m : M α) : M α := fun S => match m S with | .ok a S' => .ok a S' | _ => .stuck
def yesM : M Bool := ret true
def lcL (T : Tg) (vs : List Nat) (t : M Bool) (e : M D) : List D → List D → M (List D)
  | [], acc => ret acc
  | d :: ds, acc => fun S => match asg T d (inner vs S) with
    | none => .stuck
    | some S1 => match t S1 with
      | .ok true S2 => match e S2 with
        | .ok y S3 => if acc.length < sizeLine then lcL T vs t e ds (acc ++ [y]) (outer vs S S3) else .stuck
        | _ => .stuck
      | .ok false S2 => lcL T vs t e ds acc (outer vs S S2)
      | _ => .stuck
open Classical in
noncomputable def lcG (T : Tg) (vs : List Nat) (t : M Bool) (e : M D) (ok : Sg → Prop) : List D → List D → M (List D)
  | [], acc => fun S => if ok S then .ok acc S else .stuck
  | d :: ds, acc => fun S => if ok S then (match asg T d (inner vs S) with
    | none => .stuck
    | some S1 => match t S1 with
      | .ok true S2 => match e S2 with
        | .ok y S3 => if acc.length < sizeLine then lcG T vs t e ok ds (acc ++ [y]) (outer vs S S3) else .stuck
        | _ => .stuck
      | .ok false S2 => lcG T vs t e ok ds acc (outer vs S S2)
      | _ => .stuck) else .stuck
theorem lcG_L {T : Tg} {vs : List Nat} {t : M Bool} {e : M D} {ok : Sg → Prop} (h : ∀ S, ok S) : ∀ (ds acc : List D), lcG T vs t e ok ds acc = lcL T vs t e ds acc
  | [], acc => by funext S; simp only [lcG, lcL, if_pos (h S)]; rfl
  | d :: ds, acc => by
    funext S
    simp only [lcG, lcL, if_pos (h S), lcG_L h ds]
noncomputable def lcM (src : M Src) (T : Tg) (vs : List Nat) (t : M Bool) (e : M D) : M Cell := bd src fun s S => if noOwn S.sl vs = true ∧ (∀ i ∈ T.ix, i ∈ vs) then ((lcG T vs t e s.ok s.ds [] S).bind fun acc => ret (.lst acc)) else .stuck
def TBs (c : Gm) (E : XK) (m : M Bool) : TT := TB c E m
section
variable {X : Cx} {E : XK} {pos : Pos}
theorem wipe_eq {σ σ' : FSt} {vs : List Nat} (ho : ∀ i, i ∉ vs → σ'[i]? = σ[i]?) (hl : σ'.length = σ.length) : wipe σ' vs = wipe σ vs := by
  refine List.ext_getElem? fun i => ?_
  by_cases h : i ∈ vs
  · by_cases hi : i < σ.length
    · have f : ∀ τ : FSt, i < τ.length → (wipe τ vs)[i]? = some none := fun τ ht => by
        cases e : (wipe τ vs)[i]? with
        | none =>
          have := List.getElem?_eq_none_iff.mp e
          rw [wipe_length] at this; omega
        | some o =>
          cases o with
          | none => rfl
          | some v => exact absurd h (wipe_some e).2
      rw [f σ hi, f σ' (by rw [hl]; exact hi)]
    · rw [List.getElem?_eq_none (by rw [wipe_length]; omega), List.getElem?_eq_none (by rw [wipe_length]; omega)]
  · rw [wipe_out' h, wipe_out' h]; exact ho i h
theorem tlc_of {src : M Src} {T : Tg} {mt : M Bool} {me : M D} {vs : List Nat} : ∀ σ H Q, TC (cg X) E (lcM src T vs mt me) σ H Q → tLc (TIm (cg X) E src) (gT (cg X) T) (TB (cg X) E0 mt) (TM (cg X) E0 me) vs σ H Q := by
  rintro σ H Q ⟨w, S, s, po⟩
  unfold lcM at po
  refine ⟨w, S, s, Po.two po fun sr w1 S1 H1 st1 s1 po1 J hJ => ?_⟩
  obtain ⟨ds, ok⟩ := sr
  by_cases hno : noOwn S1.sl vs = true ∧ (∀ i ∈ T.ix, i ∈ vs)
  case neg => rw [if_neg hno] at po1; exact po1.elim
  rw [if_pos hno] at po1
  obtain ⟨no, hix⟩ := hno
  intro Da hD
  have hDs : H Da = none := st1.th Da hD
  obtain ⟨Kf, hK⟩ : ∃ Kf : Cell → Wd → Sg → Hp → Prop, Kf = fun x w' S' H' => ∀ p, H p = none → CellR (cg X) w' H' p x → w'.Hf p = none → ¬ Mu w' S' σ p → Q (.ref p) H' := ⟨_, rfl⟩
  rw [← hK] at po1
  -- the state between two turns
  refine ⟨fun i m H2 => m = ds.length - i ∧ i ≤ ds.length ∧ ∃ w2 S2 acc av, Sim (cg X) w2 S2 σ H2 ∧ noOwn S2.sl vs = true ∧ H2 Da = some (.lst av) ∧ Reps (cg X) w2 acc av ∧ w2.Hf Da = none ∧ ¬ Mu w2 S2 σ Da ∧
      Step w1 S1 σ H1 w2 S2 σ H2 ∧ Po (cg X) E ((lcG T vs mt me ok (ds.drop i) acc S2).bind fun acc => ret (Cell.lst acc)) w1 S1 σ H1 Kf, ⟨ds.length, ?_⟩, ?_⟩
  · have stD := Step.laid w1 S1 σ (.lst []) hD
    refine ⟨by simp, Nat.zero_le _, w1, S1, [], [], s1.laid _ hD, no, upd_same, .nil, s1.nofz hD, fun m => ?_, stD, po1⟩
    obtain ⟨_, o, e⟩ := s1.mu m
    rw [hD] at e; cases e
  · rintro i m H2 ⟨rfl, hil, w2, S2, acc, av, s2, no2, hA, rA, fA, mA, st2, po2⟩
    have hok : ok S2 := by
      refine Classical.byContradiction fun z => ?_
      cases e : ds.drop i with
      | nil => rw [e] at po2; simp only [lcG, if_neg z] at po2; exact po2
      | cons d t => rw [e] at po2; simp only [lcG, if_neg z] at po2; exact po2
    obtain ⟨go, stop⟩ := hJ i w2 S2 σ H2 st2.le s2 hok
    by_cases hlt : i < ds.length
    case neg =>
      have e : i = ds.length := by omega
      subst e
      refine .inl ⟨stop (Nat.le_refl _), ?_⟩
      rw [List.drop_length] at po2
      simp only [lcG, if_pos hok] at po2
      have q := po2 w2 H2 st2 s2
      rw [hK] at q
      exact q Da hDs ⟨av, hA, rA⟩ fA mA
    have hd : ds[i]? = some ds[i] := List.getElem?_eq_getElem hlt
    obtain ⟨g1, g2⟩ := go _ hd
    refine .inr ⟨g1, fun H3 => ∃ m', m' < ds.length - i ∧ (m' = ds.length - (i + 1) ∧ i + 1 ≤ ds.length ∧ ∃ w2 S2 acc av, Sim (cg X) w2 S2 σ H3 ∧ noOwn S2.sl vs = true ∧ H3 Da = some (.lst av) ∧ Reps (cg X) w2 acc av ∧ w2.Hf Da = none ∧ ¬ Mu w2 S2 σ Da ∧
      Step w1 S1 σ H1 w2 S2 σ H3 ∧ Po (cg X) E ((lcG T vs mt me ok (ds.drop (i + 1)) acc S2).bind fun acc => ret (Cell.lst acc)) w1 S1 σ H1 Kf), fun _ h => h, fun x H' y => ?_⟩
    obtain ⟨w3, st3, s3, r3⟩ := g2 x H' y
    rw [List.drop_eq_getElem_cons hlt] at po2
    simp only [lcG, if_pos hok] at po2
    cases ea : asg T ds[i] (inner vs S2) with
    | none => simp only [ea] at po2; exact po2.elim
    | some S4 =>
      simp only [ea] at po2
      refine ⟨w3, inner vs S2, ds[i], S4, s3.inner, r3, ea, fun σ4 k4 => ?_⟩
      have out4 : ∀ j, j ∉ vs → σ4[j]? = σ[j]? := fun j hj => (k4.out j fun z => hj (hix j z)).trans (wipe_out' hj)
      have len4 : σ4.length = σ.length := k4.len.trans (wipe_length σ vs)
      have stI : Step w2 S2 σ H2 w3 S4 σ4 H' := (st3.trans (Step.inner s3)).trans k4.st
      have ewipe : wipe (wipe σ vs) vs = wipe σ vs := wipe_eq (fun j hj => wipe_out' hj) (wipe_length σ vs)
      refine ⟨wipe_eq out4 len4, w3, S4, k4.sim, ?_⟩
      have back : ∀ {w5 : Wd} {S5 : Sg} {H5 : Hp}, Step w3 S4 σ4 H' w5 S5 σ4 H5 → Sim (cg X) w5 S5 σ4 H5 → Step w2 S2 σ H2 w5 (outer vs S2 S5) σ H5 ∧ Sim (cg X) w5 (outer vs S2 S5) σ H5 ∧ noOwn (outer vs S2 S5).sl vs = true ∧ H5 Da = some (.lst av) ∧ w5.Hf Da = none ∧ ¬ Mu w5 (outer vs S2 S5) σ Da := fun {w5 S5 H5} st5 s5 => by
        have so := s2.outer no2 (stI.le.trans st5.le) s5 out4 len4
        have sto : Step w2 S2 σ H2 w5 (outer vs S2 S5) σ H5 := (stI.trans st5).trans (Step.outer no2 out4)
        obtain ⟨b1, b2, b3⟩ := sto.keep Da _ hA fA mA
        refine ⟨sto, so, List.all_eq_true.mpr fun v hv => ?_, b1, b2, b3⟩
        cases hs : (outer vs S2 S5).sl[v]? with
        | none => rfl
        | some z =>
          cases z with
          | own x => exact absurd hv (outer_own no2 hs).1
          | emp => rfl
          | val d => rfl
      cases et : mt S4 with
      | stuck => simp only [et] at po2; exact po2.elim
      | exc _ _ _ => simp only [et] at po2; exact po2.elim
      | ok b S5 =>
        simp only [et] at po2
        intro w5 H5 st5 s5
        cases b with
        | false =>
          obtain ⟨b1, b2, b3, b4, b5, b6⟩ := back st5 s5
          exact ⟨_, by omega, rfl, hlt, w5, _, acc, av, b2, b3, b4, Reps.mono b1.le _ _ rA, b5, b6, st2.trans b1, po2⟩
        | true =>
          refine ⟨w5, S5, s5, ?_⟩
          cases ey : me S5 with
          | stuck => simp only [ey] at po2; exact po2.elim
          | exc _ _ _ => simp only [ey] at po2; exact po2.elim
          | ok y S6 =>
            simp only [ey] at po2
            intro w6 H6 st6 s6 v r6
            obtain ⟨b1, b2, b3, b4, b5, b6⟩ := back (st5.trans st6) s6
            by_cases hz : acc.length < sizeLine
            case neg => rw [if_neg hz] at po2; exact po2.elim
            rw [if_pos hz] at po2
            have rA6 := Reps.mono b1.le _ _ rA
            refine ⟨av, b4, by rw [← rA.length]; exact hz, _, by omega, rfl, hlt, w6, _, acc ++ [y], av ++ [v], b2.loose b5 b6, b3, upd_same, rA6.snoc r6, b5, b6, ?_, po2⟩
            have stL : Step w1 S1 σ H1 w6 (outer vs S2 S6) σ H6 := st2.trans b1
            exact ⟨stL.le, fun a o h1 h2 h3 => by
              obtain ⟨q1, q2, q3⟩ := stL.keep a o h1 h2 h3
              exact ⟨by rw [upd_ne (ne_of_none h1 hD)]; exact q1, q2, q3⟩, fun a h => stL.th a (upd_th a h)⟩
variable {elt tg iter : Expr} {ifs : List Expr} {scope : Scope} {own : List (Str × Nat)} {src : M Src} {T : Tg} {mt : M Bool} {me : M D}
theorem mc_lc (hc : X.calm = true) (hN : X.N.Nodup) (hi : PI X tg iter (TIm (cg X) E src)) (ok : BlkOk X.N X.env.scope scope own)
    (hg : ∀ (s : Shared) (H : Hp) (C : Addr) (cl : List (Str × Addr)) (fp : List Addr), PG (X.blk s H scope (compEnvC scope cl C X.env) fp) tg (gT (cg X) T))
    (ht : ∀ (s : Shared) (H : Hp) (C : Addr) (cl : List (Str × Addr)) (fp : List Addr), PTs (X.blk s H scope (compEnvC scope cl C X.env) fp) ifs (TB (cg X) E0 mt))
    (he : ∀ (s : Shared) (H : Hp) (C : Addr) (cl : List (Str × Addr)) (fp : List Addr), PE (X.blk s H scope (compEnvC scope cl C X.env) fp) elt (TM (cg X) E0 me))
    (hs : ∀ x, foldedSetIterable iter X.env x = pure x := by intro _; rfl) : PE X (.ListComp elt [⟨tg, iter, ifs, 0⟩] scope pos) (TC (cg X) E (lcM src T (own.map (·.2)) mt me)) :=
  PE.weak (pe_lc hc hN hi ok hg ht he hs) tlc_of
theorem ms_ownLc {i : Nat} {y : Str} {py spos : Pos} (hc : X.calm = true) (hN : X.N.Nodup) (hy : X.N[i]? = some y) (hyl : X.env.scope.names.lookup y = some .local)
    (hsw : swapsWith (.ListComp elt [⟨tg, iter, ifs, 0⟩] scope pos) (some (.Name y py)) spos.line X.env = pure true) (hi : PI X tg iter (TIm (cg X) E src)) (ok : BlkOk X.N X.env.scope scope own)
    (hg : ∀ (s : Shared) (H : Hp) (C : Addr) (cl : List (Str × Addr)) (fp : List Addr), PG (X.blk s H scope (compEnvC scope cl C X.env) fp) tg (gT (cg X) T))
    (ht : ∀ (s : Shared) (H : Hp) (C : Addr) (cl : List (Str × Addr)) (fp : List Addr), PTs (X.blk s H scope (compEnvC scope cl C X.env) fp) ifs (TB (cg X) E0 mt))
    (he : ∀ (s : Shared) (H : Hp) (C : Addr) (cl : List (Str × Addr)) (fp : List Addr), PE (X.blk s H scope (compEnvC scope cl C X.env) fp) elt (TM (cg X) E0 me))
    (hs : ∀ x, foldedSetIterable iter X.env x = pure x := by intro _; rfl) : PS X (.Assign [.Name y py] (.ListComp elt [⟨tg, iter, ifs, 0⟩] scope pos) spos) (TSm (cg X) E (ownM i (lcM src T (own.map (·.2)) mt me))) := by
  refine PS.weak (ps_setLc hc hN hy hyl hsw hi ok hg ht he hs) fun Dn σ H ⟨w, S, s, po⟩ => tlc_of σ H _ ⟨w, S, s, ?_⟩
  have po : PoS (cg X) E ((lcM src T (own.map (·.2)) mt me S).bind fun x S => .ok .nx (S.st i (.own x))) w S σ H Dn := po
  cases e : lcM src T (own.map (·.2)) mt me S with
  | ok y S' =>
    rw [e] at po
    intro w' H' st' s' p hp hc hf' hm
    exact po w' (σ.set i (some (.ref p))) H' (Step.setOwn st' hp) (s'.setOwn hc hf' hm)
  | exc C fs S' => rw [e] at po; exact po
  | stuck => rw [e] at po; exact po
theorem ms_setLc {i : Nat} {y : Str} {py spos : Pos} (hc : X.calm = true) (hN : X.N.Nodup) (hy : X.N[i]? = some y) (hyl : X.env.scope.names.lookup y = some .local)
    (hsw : swapsWith (.ListComp elt [⟨tg, iter, ifs, 0⟩] scope pos) (some (.Name y py)) spos.line X.env = pure true) (hi : PI X tg iter (TIm (cg X) E src)) (ok : BlkOk X.N X.env.scope scope own)
    (hg : ∀ (s : Shared) (H : Hp) (C : Addr) (cl : List (Str × Addr)) (fp : List Addr), PG (X.blk s H scope (compEnvC scope cl C X.env) fp) tg (gT (cg X) T))
    (ht : ∀ (s : Shared) (H : Hp) (C : Addr) (cl : List (Str × Addr)) (fp : List Addr), PTs (X.blk s H scope (compEnvC scope cl C X.env) fp) ifs (TB (cg X) E0 mt))
    (he : ∀ (s : Shared) (H : Hp) (C : Addr) (cl : List (Str × Addr)) (fp : List Addr), PE (X.blk s H scope (compEnvC scope cl C X.env) fp) elt (TM (cg X) E0 me))
    (k : Cell → M D) (hk : k = frzC ∨ k = boxC)
    (hs : ∀ x, foldedSetIterable iter X.env x = pure x := by intro _; rfl) : PS X (.Assign [.Name y py] (.ListComp elt [⟨tg, iter, ifs, 0⟩] scope pos) spos) (TSm (cg X) E (setM i (bd (lcM src T (own.map (·.2)) mt me) k))) := by
  refine PS.weak (ps_setLc hc hN hy hyl hsw hi ok hg ht he hs) fun Dn σ H ⟨w, S, s, po⟩ => tlc_of σ H _ ⟨w, S, s, ?_⟩
  have po : PoS (cg X) E (((lcM src T (own.map (·.2)) mt me S).bind k).bind fun d S => .ok .nx (S.st i (.val d))) w S σ H Dn := po
  cases e : lcM src T (own.map (·.2)) mt me S with
  | ok y S' =>
    rw [e] at po
    intro w' H' st' s' p hp hc hf' hm
    rcases hk with rfl | rfl
    · cases y with
      | lst xs =>
        obtain ⟨vs, h1, h2⟩ := hc
        have r : Rep (cg X) (w'.add p (.lst vs)) (.lst xs) (.ref p) := by
          simp only [Rep]
          exact ⟨p, vs, rfl, upd_same, Reps.mono (.add hf') _ _ h2⟩
        exact po (w'.add p (.lst vs)) (σ.set i (some (.ref p))) H' ((Step.freeze st' hp hf').trans (Step.setVal ..)) ((s'.freeze h1 hf' hm).setVal r)
      | dK _ => exact po.elim
      | dT _ => exact po.elim
      | ins _ _ => exact po.elim
    · have r : Rep (cg X) (w'.bx p) (.box S'.g.nx) (.ref p) := by
        simp only [Rep]
        refine ⟨?_, ?_⟩
        · show S'.g.nx < w'.n + 1
          rw [s'.n]; exact Nat.lt_succ_self _
        · rw [← s'.n, bx_new]
      exact po (w'.bx p) (σ.set i (some (.ref p))) H' ((Step.box s' st' hp).trans (Step.setVal ..)) ((s'.box hc hf' hm).setVal r)
  | exc C fs S' => rw [e] at po; exact po
  | stuck => rw [e] at po; exact po
theorem mts_nil : PTs X [] (TB (cg X) E yesM) := ⟨fun pins s σ H Q I ⟨w, S, sm, po⟩ => pts_nil.run pins s σ H Q I (po w H (.refl ..) sm)⟩
theorem mts_one {e : Expr} {mt : M Bool} (h : PT X e (TB (cg X) E mt)) : PTs X [e] (TB (cg X) E mt) := pts_one h
end
end Mm
end

section
/-! MmG: defs and calls. -/
namespace Mm
open PySem L2
open PyProof.Rows (envOfC)

abbrev F := List D → M D
def finR : R Fl → R D
  | .ok .nx S => .ok .non ⟨[], S.g⟩
  | .ok (.rt d) S => .ok d ⟨[], S.g⟩
  | .ok .bk _ => .stuck
  | .ok .ct _ => .stuck
  | .exc C fs S => .exc C fs ⟨[], S.g⟩
  | .stuck => .stuck
def slots (n : Nat) (ds : List D) : List Slot := ds.map .val ++ List.replicate (n - ds.length) .emp
/-- a def: n names, the parameters first -/
def runF (n : Nat) (b : M Fl) : F := fun ds S => finR (b ⟨slots n ds, S.g⟩)
def inR {α : Type} (sl : List Slot) : R α → R α
  | .ok d S => .ok d ⟨sl, S.g⟩
  | .exc C fs S => .exc C fs ⟨sl, S.g⟩
  | .stuck => .stuck
def inF (f : M D) : M D := fun S => inR S.sl (f ⟨[], S.g⟩)
def callM (f : F) (ms : M (List D)) : M D := bd ms fun ds => inF (f ds)

section
variable {c : Gm} {w w' : Wd} {S S' : Sg} {σ σ' : FSt} {H H' : Hp} {g : G} {E : XK}
theorem Sim.drop (s : Sim c w S σ H) : Sim c w ⟨[], S.g⟩ [] H where
  n := s.n
  fz := s.fz
  cell := s.cell
  inj := s.inj
  len := rfl
  val := fun i d e => by simp at e
  own := fun i x e => by simp at e
  ownInj := fun i j x y p e => by simp at e
theorem mu_drop {a : Addr} (m : Mu w ⟨[], S.g⟩ [] a) : Mu w S σ a := by
  rcases m with m | ⟨i, x, e, _⟩
  · exact .inl m
  · simp at e
theorem slots_own {n : Nat} {ds : List D} {i : Nat} {x : Cell} : (slots n ds)[i]? ≠ some (.own x) := fun e => by
  have m := List.mem_of_getElem? e
  unfold slots at m
  rcases List.mem_append.mp m with m | m
  · obtain ⟨d, _, e⟩ := List.mem_map.mp m; cases e
  · have := (List.mem_replicate.mp m).2; cases this
theorem mu_slots {n : Nat} {ds : List D} {a : Addr} (m : Mu w ⟨slots n ds, g⟩ σ a) : Mu w ⟨[], g⟩ [] a := by
  rcases m with m | ⟨i, x, e, _⟩
  · exact .inl m
  · exact absurd e slots_own
/-- the frame of a def at its begin -/
theorem Sim.enter (s : Sim c w ⟨[], g⟩ [] H) {N : List Str} {ds : List D} {vs : List V} (r : Reps c w ds vs) : Sim c w ⟨slots N.length ds, g⟩ (L2.start N vs) H where
  n := s.n
  fz := s.fz
  cell := s.cell
  inj := s.inj
  len := by
    show (slots N.length ds).length = _
    unfold slots L2.start
    rw [List.length_append, List.length_append, List.length_map, List.length_map, List.length_replicate, List.length_replicate, r.length]
  val := fun i d e => by
    have e : (slots N.length ds)[i]? = some (.val d) := e
    unfold slots at e
    by_cases hi : i < ds.length
    · rw [List.getElem?_append_left (by simpa using hi), List.getElem?_map] at e
      cases e2 : ds[i]? with
      | none => rw [e2] at e; cases e
      | some y =>
        rw [e2] at e
        cases e
        obtain ⟨v, h1, h2⟩ := r.get e2
        refine ⟨v, ?_, h2⟩
        show (L2.start N vs)[i]? = _
        unfold L2.start
        rw [List.getElem?_append_left (by simpa [← r.length] using hi), List.getElem?_map, h1]
        rfl
    · rw [List.getElem?_append_right (by simpa using hi), List.getElem?_replicate] at e
      split at e <;> cases e
  own := fun i x e => absurd e slots_own
  ownInj := fun i j x y p e => absurd e slots_own
theorem Step.enter {n : Nat} {ds : List D} : Step w ⟨[], g⟩ [] H w ⟨slots n ds, g⟩ σ H := ⟨.refl w, fun a o h1 h2 h3 => ⟨h1, h2, fun m => h3 (mu_slots m)⟩, fun _ h => h⟩
theorem Step.drop : Step w S σ H w ⟨[], S.g⟩ [] H := ⟨.refl w, fun a o h1 h2 h3 => ⟨h1, h2, fun m => h3 (mu_drop m)⟩, fun _ h => h⟩
/-- behind a call: the caller's frame again -/
theorem Sim.back (s : Sim c w S σ H) (st : Step w ⟨[], S.g⟩ [] H w' ⟨[], g⟩ [] H') (s' : Sim c w' ⟨[], g⟩ [] H') : Sim c w' ⟨S.sl, g⟩ σ H' where
  n := s'.n
  fz := s'.fz
  cell := s'.cell
  inj := s'.inj
  len := s.len
  val := fun i d e => by
    obtain ⟨v, h1, h2⟩ := s.val i d e
    exact ⟨v, h1, Rep.mono st.le _ _ h2⟩
  own := fun i x e => by
    obtain ⟨p, k1, k2, k3, k4⟩ := s.own i x e
    obtain ⟨o, ho⟩ := k2.there
    obtain ⟨q1, q2, q3⟩ := st.keep p o ho k3 fun m => by
      rcases m with ⟨r, y, e1, e2⟩ | ⟨j, y, e1, _⟩
      · exact k4 r y e1 e2
      · simp at e1
    exact ⟨p, k1, k2.mono st.le (q1.trans ho.symm), q2, fun r y e1 e2 => q3 (.inl ⟨r, y, e1, e2⟩)⟩
  ownInj := s.ownInj
theorem Step.back (s : Sim c w S σ H) (st : Step w ⟨[], S.g⟩ [] H w' ⟨[], g⟩ [] H') : Step w S σ H w' ⟨S.sl, g⟩ σ H' :=
  ⟨st.le, fun a o h1 h2 h3 => by
    obtain ⟨q1, q2, q3⟩ := st.keep a o h1 h2 fun m => h3 (mu_drop m)
    refine ⟨q1, q2, fun m => ?_⟩
    rcases m with m | ⟨i, x, e, k⟩
    · exact q3 (.inl m)
    · exact h3 (.inr ⟨i, x, e, k⟩), st.th⟩
end

/-- a def's promise: what f says -/
def spM (c : Gm) (n : Nat) (f : F) : Sp := fun vs H Q E => vs.length = n ∧ ∃ w g ds, Sim c w ⟨[], g⟩ [] H ∧ Reps c w ds vs ∧ Po c E (f ds ⟨[], g⟩) w ⟨[], g⟩ [] H (KD c Q)
/-- a def's run never leaves slots behind -/
def Flat (f : F) : Prop := ∀ ds g, match f ds ⟨[], g⟩ with | .ok _ S => S.sl = [] | .exc _ _ S => S.sl = [] | .stuck => True
theorem flat_runF {n : Nat} {b : M Fl} : Flat (runF n b) := fun ds g => by
  unfold runF
  cases b ⟨slots n ds, (⟨[], g⟩ : Sg).g⟩ with
  | ok f S => cases f <;> simp [finR]
  | exc C fs S => simp [finR]
  | stuck => simp [finR]

/-- a def that may be called by its name: its text, its parameters, its mirror -/
structure FnM (P : Program) (w : World) (K : PySem.W.Frag) (mg : Str → Option Value) (base : Heap) (k : Nat) (x : Str) (st : Stmt) (ps : List Str) (f : F) : Prop where
  flat : Flat f
  ex : ∃ (fa : Addr) (fd : FuncData), FnOk P w K mg base (L2.CX P w) k fa fd ps (spM (gmOf K mg) ps.length f) ∧ mg x = some (.ref fa) ∧ PySem.W.keepIn K (.ref fa) = true ∧ Binds K fd ps [] ∧ Fun K x x st fa fd
theorem FnM.mono {P : Program} {w : World} {K : PySem.W.Frag} {mg : Str → Option Value} {base : Heap} {j k : Nat} {x : Str} {st : Stmt} {ps : List Str} {f : F} (h : FnM P w K mg base j x st ps f) (l : j ≤ k) : FnM P w K mg base k x st ps f := by
  obtain ⟨fa, fd, h1, h2⟩ := h.ex
  exact ⟨h.flat, fa, fd, h1.mono l, h2⟩
/-- how many arguments stand there -/
def ArgN (n : Nat) (m : M (List D)) : Prop := ∀ S ds S', m S = .ok ds S' → ds.length = n
theorem argN_nil : ArgN 0 nilM := fun S ds S' e => by cases e; rfl
theorem argN_cons {n : Nat} {m : M D} {ms : M (List D)} (h : ArgN n ms) : ArgN (n + 1) (consM m ms) := fun S ds S' e => by
  unfold consM bd at e
  cases e1 : m S with
  | ok d S1 =>
    rw [e1] at e
    have e : (ms S1).bind (fun ds => ret (d :: ds)) = .ok ds S' := e
    cases e2 : ms S1 with
    | ok ds2 S2 =>
      rw [e2] at e
      cases e
      rw [List.length_cons, h _ _ _ e2]
    | exc _ _ _ => rw [e2] at e; cases e
    | stuck => rw [e2] at e; cases e
  | exc _ _ _ => rw [e1] at e; cases e
  | stuck => rw [e1] at e; cases e
theorem tcall_of {c : Gm} {E : XK} {n : Nat} {f : F} {ms : M (List D)} (hf : Flat f) (hn : ArgN n ms) : ∀ σ H Q, TM c E (callM f ms) σ H Q → tCall (spM c n f) [] E (TL c E ms) σ H Q := by
  rintro σ H Q ⟨w, S, s, po⟩
  refine ⟨w, S, s, ?_⟩
  have po : Po c E ((ms S).bind fun ds => inF (f ds)) w S σ H (KD c Q) := po
  cases em : ms S with
  | exc C fs S' => rw [em] at po; exact po
  | stuck => rw [em] at po; exact po
  | ok ds S1 =>
    rw [em] at po
    intro w1 H1 st1 s1 vs r
    have po1 : Po c E (inF (f ds) S1) w1 S1 σ H1 (KD c Q) := Po.rebase st1 po
    rw [List.append_nil]
    refine ⟨by rw [← r.length]; exact hn _ _ _ em, w1, S1.g, ds, s1.drop, r, ?_⟩
    unfold inF at po1
    have fl := hf ds S1.g
    cases e : f ds ⟨[], S1.g⟩ with
    | ok d S2 =>
      rw [e] at po1 fl
      obtain ⟨sl2, g2⟩ := S2
      obtain rfl : sl2 = [] := fl
      intro w2 H2 st2 s2 v rv
      exact po1 w2 H2 (Step.back s1 st2) (s1.back st2 s2) v rv
    | exc C fs S2 =>
      rw [e] at po1 fl
      obtain ⟨sl2, g2⟩ := S2
      obtain rfl : sl2 = [] := fl
      intro w2 σ2 H2 Ca dx ys st2 s2 hC hd hy hr
      have st2 : Step w1 ⟨[], S1.g⟩ [] H1 w2 ⟨[], g2⟩ [] H2 := st2.trans (Step.drop (σ := σ2))
      have s2' : Sim c w2 ⟨[], g2⟩ [] H2 := s2.drop
      exact po1 w2 σ H2 Ca dx ys (Step.back s1 st2) (s1.back st2 s2') hC hd hy hr
    | stuck => rw [e] at po1; exact po1
section
variable {X : Cx} {E : XK} {k j n : Nat} {x : Str} {st : Stmt} {ps : List Str} {f : F} {p pos : Pos} {e : Expr} {es : List Expr} {ms : M (List D)}
theorem me_call (c : FnM X.prog X.w X.K X.mg X.base k x st ps f) (hr : Room j X.A) (hk : k ≤ j) (hx : Passes (L2.CX X.prog X.w) X E) (hg : Gl X x) (ha : PA X (e :: es) (TL (cg X) E ms)) (hn : ArgN n ms) (hl : ps.length = n := by rfl)
    (hdb : (x == ("__debug__" : Str)) = false := by decide) (he : starEach (e :: es) X.env = (false, eval e X.env) :: starEach es X.env := by rfl) (hpl : (backTo pos (starEach es X.env)).any (·.1) = false := by rfl) :
    PE X (.Call (.Name x p) (e :: es) [] pos) (TM (cg X) E (callM f ms)) := by
  obtain ⟨fa, fd, F, hm, kp, b, _⟩ := c.ex
  subst hl
  exact PE.weak (pe_call F (hr.mono hk) hg hm kp b .nil hx ha hdb he hpl) (tcall_of c.flat hn)
theorem me_call0 (c : FnM X.prog X.w X.K X.mg X.base k x st [] f) (hr : Room j X.A) (hk : k ≤ j) (hx : Passes (L2.CX X.prog X.w) X E) (hg : Gl X x)
    (hdb : (x == ("__debug__" : Str)) = false := by decide) : PE X (.Call (.Name x p) [] [] pos) (TM (cg X) E (callM f nilM)) := by
  obtain ⟨fa, fd, F, hm, kp, b, _⟩ := c.ex
  refine PE.weak (pe_call0 F (hr.mono hk) hg hm kp b .nil hx hdb) fun σ H Q h => ?_
  obtain ⟨w, S, s, po⟩ := tcall_of c.flat argN_nil σ H Q h
  exact po w H (.refl ..) s [] .nil
end

/-- THE RULE for a def: its body's mirror -/
theorem fnM_ok {P : Program} {w : World} {K : PySem.W.Frag} {mg : Str → Option Value} {base : Heap} {x qual : Str} {st : Stmt} {fa : Addr} {fd : FuncData} {N ps : List Str} {k : Nat} {b : M Fl} (F : Fun K x qual st fa fd) (S : FnScope N ps (defScope st))
    (hbody : ∀ (cdv : Value) (A : Around) (outer : List Env) (s : Shared) (H : Hp) (E : XK), Room k (A.deeper (envOfC qual (defScope st) s.heap.objs.size fa cdv)) →
      PSs (cxOf (L2.CX P w) P w K mg base N qual (defScope st) fa cdv A outer s H E) (defBody st) (TSm (gmOf K mg) E b)) :
    FnOk P w K mg base (L2.CX P w) (k + 1) fa fd ps (spM (gmOf K mg) ps.length (runF N.length b)) := by
  refine F.okX S (fun vs H Q E h => h.1) (fun cdv A outer s H vs Q E hr h => ⟨_, hbody cdv A outer s H E hr, ?_⟩)
  obtain ⟨hl, wd, g, ds, sm, r, po⟩ := h
  refine ⟨wd, ⟨slots N.length ds, g⟩, sm.enter r, ?_⟩
  have st0 : Step wd ⟨[], g⟩ [] H wd ⟨slots N.length ds, g⟩ (L2.start N vs) H := Step.enter
  unfold runF at po
  have po : Po (gmOf K mg) E (finR (b ⟨slots N.length ds, g⟩)) wd ⟨[], g⟩ [] H (KD (gmOf K mg) Q) := po
  cases e : b ⟨slots N.length ds, g⟩ with
  | ok f S1 =>
    rw [e] at po
    intro w1 σ1 H1 st1 s1
    have st2 := (st0.trans st1).trans Step.drop
    cases f with
    | nx => exact po w1 H1 st2 s1.drop .non (by simp only [Rep])
    | rt d => intro v rv; exact po w1 H1 st2 s1.drop v rv
    | bk => exact po.elim
    | ct => exact po.elim
  | exc C fs S1 =>
    rw [e] at po
    intro w1 σ1 H1 Ca dx ys st1 s1 hC hd hy hr
    exact po w1 [] H1 Ca dx ys ((st0.trans st1).trans Step.drop) s1.drop hC hd hy hr
  | stuck => rw [e] at po; exact po
theorem FnM.of {P : Program} {w : World} {K : PySem.W.Frag} {mg : Str → Option Value} {base : Heap} {x : Str} {st : Stmt} {fa : Addr} {fd : FuncData} {ps : List Str} {k N : Nat} {b : M Fl} (h : FnOk P w K mg base (L2.CX P w) k fa fd ps (spM (gmOf K mg) ps.length (runF N b)))
    (hm : mg x = some (.ref fa)) (hb : Binds K fd ps []) (F : Fun K x x st fa fd) : FnM P w K mg base k x st ps (runF N b) := ⟨flat_runF, fa, fd, h, hm, F.kp, hb, F⟩
/-- a def of the module with its mirror -/
theorem fnM {P : Program} {w : World} {K : PySem.W.Frag} {mg : Str → Option Value} {base : Heap} {x : Str} {st : Stmt} {fa : Addr} {fd : FuncData} {N ps : List Str} {k : Nat} {b : M Fl} (F : Fun K x x st fa fd) (hm : mg x = some (.ref fa)) (hb : Binds K fd ps []) (S : FnScope N ps (defScope st))
    (hbody : ∀ (cdv : Value) (A : Around) (outer : List Env) (s : Shared) (H : Hp) (E : XK), Room k (A.deeper (envOfC x (defScope st) s.heap.objs.size fa cdv)) →
      PSs (cxOf (L2.CX P w) P w K mg base N x (defScope st) fa cdv A outer s H E) (defBody st) (TSm (gmOf K mg) E b)) : FnM P w K mg base (k + 1) x st ps (runF N.length b) := FnM.of (fnM_ok F S hbody) hm hb F
/-- within a def's body an exception goes on to its caller -/
theorem passD {P : Program} {w : World} {K : PySem.W.Frag} {mg : Str → Option Value} {base : Heap} {N : List Str} {qual : Str} {sc : Scope} {f : Addr} {cd : Value} {A : Around} {outer : List Env} {s : Shared} {H : Hp} {E : XK} :
    Passes (L2.CX P w) (cxOf (L2.CX P w) P w K mg base N qual sc f cd A outer s H E) E := passes_call (takes_of rfl rfl rfl rfl) fun _ _ _ _ h => h
theorem ownsD {P : Program} {w : World} {K : PySem.W.Frag} {mg : Str → Option Value} {base : Heap} {N : List Str} {qual : Str} {sc : Scope} {f : Addr} {cd : Value} {A : Around} {outer : List Env} {s : Shared} {H : Hp} {E : XK} :
    PassesOwn (model P w) (cxOf (L2.CX P w) P w K mg base N qual sc f cd A outer s H E).A (cxOf (L2.CX P w) P w K mg base N qual sc f cd A outer s H E).env (cxOf (L2.CX P w) P w K mg base N qual sc f cd A outer s H E).xe := passes_of rfl
end Mm
end

section
/-! MmH: what changes in place: lists, dicts; names side by side. -/
namespace Mm
open PySem L2
open PyProof.Rows (envOfC)

/-! ### an own object becomes a box -/
def rdB (i : Nat) : M D := fun S => match S.sl[i]? with
  | some (.own x) => .ok (.box S.g.nx) ((S.st i (.val (.box S.g.nx))).up (S.g.add x))
  | some (.val (.box r)) => .ok (.box r) S
  | _ => .stuck
section
variable {c : Gm} {w : Wd} {S : Sg} {σ : FSt} {H : Hp}
theorem Sim.emp (s : Sim c w S σ H) (i : Nat) : Sim c w (S.st i .emp) σ H where
  n := s.n
  fz := s.fz
  cell := s.cell
  inj := s.inj
  len := by show (S.sl.set i _).length = σ.length; rw [List.length_set]; exact s.len
  val := fun j d e => by
    rcases set_get e with ⟨e1, e2⟩ | ⟨e1, e2⟩
    · cases e2
    · exact s.val j d e2
  own := fun j x e => by
    rcases set_get e with ⟨e1, e2⟩ | ⟨e1, e2⟩
    · cases e2
    · exact s.own j x e2
  ownInj := fun j j' x y p e e' k k' => by
    rcases set_get e with ⟨e1, e2⟩ | ⟨e1, e2⟩
    · cases e2
    · rcases set_get e' with ⟨e1', e2'⟩ | ⟨e1', e2'⟩
      · cases e2'
      · exact s.ownInj j j' x y p e2 e2' k k'
theorem mu_emp {i : Nat} {a : Addr} (m : Mu w (S.st i .emp) σ a) : Mu w S σ a := by
  rcases m with m | ⟨j, x, e, k⟩
  · exact .inl m
  · rcases set_get e with ⟨e1, e2⟩ | ⟨e1, e2⟩
    · cases e2
    · exact .inr ⟨j, x, e2, k⟩
theorem mu_emp_not (s : Sim c w S σ H) {i : Nat} {x : Cell} {p : Addr} (h : S.sl[i]? = some (.own x)) (hp : slotV σ i (.ref p)) : ¬ Mu w (S.st i .emp) σ p := by
  rintro (⟨r, y, e, z⟩ | ⟨j, y, e, z⟩)
  · obtain ⟨q, k1, k2, k3, k4⟩ := s.own i x h
    have e2 : some (some (V.ref q)) = some (some (V.ref p)) := k1.symm.trans hp
    cases e2
    exact k4 r y e z
  · rcases set_get e with ⟨e1, e2⟩ | ⟨e1, e2⟩
    · cases e2
    · exact e1 (s.ownInj j i y x p e2 h z hp)
theorem set_self {i : Nat} {v : V} (h : slotV σ i v) : σ.set i (some v) = σ := by
  refine List.ext_getElem? fun j => ?_
  by_cases e : j = i
  · subst e
    have hi := (List.getElem?_eq_some_iff.mp h).1
    rw [List.getElem?_set_self hi]; exact h.symm
  · rw [List.getElem?_set_ne (Ne.symm e)]
theorem Sim.boxOwn (s : Sim c w S σ H) {i : Nat} {x : Cell} {p : Addr} (h : S.sl[i]? = some (.own x)) (hp : slotV σ i (.ref p)) (hc : CellR c w H p x) (hf : w.Hf p = none) :
    Sim c (w.bx p) ((S.st i (.val (.box S.g.nx))).up (S.g.add x)) σ H ∧ Step w S σ H (w.bx p) ((S.st i (.val (.box S.g.nx))).up (S.g.add x)) σ H := by
  have s1 := (s.emp i).box hc hf (mu_emp_not s h hp)
  have r : Rep c (w.bx p) (.box S.g.nx) (.ref p) := by
    simp only [Rep]
    refine ⟨?_, ?_⟩
    · show S.g.nx < w.n + 1
      rw [s.n]; exact Nat.lt_succ_self _
    · rw [← s.n, bx_new]
  have s2 := s1.setVal (i := i) (d := .box S.g.nx) r
  rw [set_self hp] at s2
  have e : ((S.st i .emp).up ((S.st i .emp).g.add x)).st i (.val (.box S.g.nx)) = (S.st i (.val (.box S.g.nx))).up (S.g.add x) := by
    show (⟨(S.sl.set i .emp).set i (.val (.box S.g.nx)), S.g.add x⟩ : Sg) = ⟨S.sl.set i (.val (.box S.g.nx)), S.g.add x⟩
    rw [List.set_set]
  rw [e] at s2
  refine ⟨s2, .bx, fun a o h1 h2 h3 => ⟨h1, h2, fun m => ?_⟩, fun _ h => h⟩
  have hpa : a ≠ p := fun z => h3 (.inr ⟨i, x, h, by rw [z]; exact hp⟩)
  rcases m with m | ⟨j, y, e1, k⟩
  · have m2 : Mu (w.bx p) ((S.st i .emp).up ((S.st i .emp).g.add x)) σ a := .inl m
    rcases mu_bx (s.emp i) m2 with z | z
    · exact hpa z
    · exact h3 (mu_emp z)
  · rcases set_get e1 with ⟨_, e2⟩ | ⟨_, e2⟩
    · cases e2
    · exact h3 (.inr ⟨j, y, e2, k⟩)
end
section
variable {X : Cx} {E : XK} {pos : Pos}
theorem me_varB (i : Nat) {x : Str} (hN : X.N[i]? = some x := by rfl) (hv : Vis X.env.scope x := by first | exact Or.inl rfl | exact Or.inr (Or.inl rfl) | exact Or.inr (Or.inr rfl)) (hd : (x == ("__debug__" : Str)) = false := by decide)
    (hcd : (x == ("__classdict__" : Str)) = false := by decide) : PE X (.Name x pos) (TM (cg X) E (rdB i)) := by
  refine PE.weak (pe_var hN hv hd hcd) fun σ H Q ⟨w, S, s, po⟩ => ?_
  unfold rdB at po
  split at po
  · rename_i x hx
    obtain ⟨p, k1, k2, k3, k4⟩ := s.own i _ hx
    obtain ⟨s2, st2⟩ := s.boxOwn hx k1 k2 k3
    refine ⟨.ref p, k1, po _ H st2 s2 _ ?_⟩
    simp only [Rep]
    refine ⟨?_, ?_⟩
    · show S.g.nx < w.n + 1
      rw [s.n]; exact Nat.lt_succ_self _
    · rw [← s.n, bx_new]
  · rename_i r hd
    obtain ⟨v, h1, h2⟩ := s.val i _ hd
    exact ⟨v, h1, po w H (.refl ..) s v h2⟩
  · exact po.elim
end

/-! ### methods of lists that change them -/
def chkL (p : Pl) : M Unit := fun S => match getP p S with | some (.lst _) => .ok () S | _ => .stuck
def mutL (f : List D → List D → Option (D × List D)) (p : Pl) (as : List D) : M D := fun S => match getP p S with
  | some (.lst xs) => match f as xs with
    | some (d, ys) => .ok d (putP p (.lst ys) S)
    | none => .stuck
  | _ => .stuck
def mutM (f : List D → List D → Option (D × List D)) (P : M Pl) (ms : M (List D)) : M D := bd P fun p => bd (chkL p) fun _ => bd ms fun as => mutL f p as
/-- f on values is what r asks -/
def MutOk (c : Gm) (r : V → List V → Hp → VK → Prop) (f : List D → List D → Option (D × List D)) : Prop :=
  ∀ (w : Wd) (H : Hp) (l : Addr) (vs us : List V) (xs as ys : List D) (d : D) (Q : VK), H l = some (.lst vs) → Reps c w xs vs → Reps c w as us → f as xs = some (d, ys) →
    (∀ v vs', Reps c w ys vs' → Rep c w d v → Q v (upd H l (.lst vs'))) → r (.ref l) us H Q
theorem bind_unit {α β : Type} (r : R α) (k : α → Sg → R β) : R.bind r k = R.bind r k := rfl
theorem tmut_of {c : Gm} {E : XK} {K : PySem.W.Frag} {r : V → List V → Hp → VK → Prop} {f : List D → List D → Option (D × List D)} (hf : MutOk c r f) {P : M Pl} {ms : M (List D)} :
    ∀ σ H Q, TM c E (mutM f P ms) σ H Q → tBM K "list" r (TP c E P) (TL c E ms) σ H Q := by
  rintro σ H Q ⟨w, S, s, po⟩
  refine ⟨w, S, s, Po.two (k := fun p => bd (chkL p) fun _ => bd ms fun as => mutL f p as) po fun p w1 S1 H1 st1 s1 po1 a pa => ?_⟩
  have po1 : Po c E (R.bind (chkL p S1) fun _ => bd ms fun as => mutL f p as) w1 S1 σ H1 (KD c Q) := po1
  unfold chkL at po1
  cases eg : getP p S1 with
  | none => rw [eg] at po1; exact po1.elim
  | some x =>
    rw [eg] at po1
    cases x with
    | lst xs =>
      obtain ⟨⟨vs, h1, h2⟩, h3⟩ := s1.getP pa eg
      refine ⟨.inl ⟨rfl, vs, .inl (.inl h1)⟩, w1, S1, s1, ?_⟩
      refine Po.two (k := fun as => mutL f p as) po1 fun as w2 S2 H2 st2 s2 po2 us ru => ?_
      have pa2 : PlAt w2 σ a p := pa.mono st2.le
      unfold mutL at po2
      cases eg2 : getP p S2 with
      | none => rw [eg2] at po2; exact po2.elim
      | some x2 =>
        rw [eg2] at po2
        cases x2 with
        | lst xs2 =>
          obtain ⟨⟨vs2, k1, k2⟩, k3⟩ := s2.getP pa2 eg2
          cases ef : f as xs2 with
          | none => simp only [ef] at po2; exact po2.elim
          | some q =>
            obtain ⟨d, ys⟩ := q
            simp only [ef] at po2
            refine hf w2 H2 a vs2 us xs2 as ys d Q k1 k2 ru ef fun v vs' r1 r2 => ?_
            exact po2 w2 (upd H2 a (.lst vs')) (Step.putP s2 pa2 eg2) (s2.putP pa2 eg2 ⟨vs', upd_same, r1⟩) v r2
        | dK _ => exact po2.elim
        | dT _ => exact po2.elim
        | ins _ _ => exact po2.elim
    | dK _ => exact po1.elim
    | dT _ => exact po1.elim
    | ins _ _ => exact po1.elim
def appF : List D → List D → Option (D × List D)
  | [d], xs => if xs.length < sizeLine then some (.non, xs ++ [d]) else none
  | _, _ => none
def popF : List D → List D → Option (D × List D)
  | [], xs => match xs[xs.length - 1]? with | some d => some (d, xs.dropLast) | none => none
  | _, _ => none
def popAtF : List D → List D → Option (D × List D)
  | [.int i], xs => if -(2 ^ 63) ≤ i ∧ i < 2 ^ 63 then (match seqIndex? i xs.length with
    | some k => match xs[k]? with | some d => some (d, xs.eraseIdx k) | none => none
    | none => none) else none
  | _, _ => none
def revF : List D → List D → Option (D × List D)
  | [], xs => some (.non, xs.reverse)
  | _, _ => none
def clrF : List D → List D → Option (D × List D)
  | [], _ => some (.non, [])
  | _, _ => none
section
variable {c : Gm}
theorem rep_non {w : Wd} : Rep c w .non .non := by simp only [Rep]
theorem mut_app : MutOk c rAppend appF := fun w H l vs us xs as ys d Q h1 h2 h3 h4 q => by
  cases as with
  | nil => cases h4
  | cons a t =>
    cases t with
    | cons _ _ => cases h4
    | nil =>
      obtain ⟨v, t, rfl, r1, r2⟩ := reps_cons.mp h3
      cases reps_nil.mp r2
      have h4 : (if xs.length < sizeLine then some (D.non, xs ++ [a]) else none) = some (d, ys) := h4
      by_cases z : xs.length < sizeLine
      · rw [if_pos z] at h4; cases h4
        exact ⟨l, vs, v, rfl, rfl, h1, by rw [← h2.length]; exact z, q _ _ (h2.snoc r1) rep_non⟩
      · rw [if_neg z] at h4; cases h4
theorem mut_pop : MutOk c rPop popF := fun w H l vs us xs as ys d Q h1 h2 h3 h4 q => by
  cases as with
  | cons _ _ => cases h4
  | nil =>
    cases reps_nil.mp h3
    have h4 : (match xs[xs.length - 1]? with | some d => some (d, xs.dropLast) | none => none) = some (d, ys) := h4
    cases e : xs[xs.length - 1]? with
    | none => rw [e] at h4; cases h4
    | some y =>
      rw [e] at h4; cases h4
      obtain ⟨v, hv, rv⟩ := h2.get e
      rw [h2.length] at hv
      exact ⟨l, vs, v, rfl, rfl, h1, hv, q _ _ h2.dropLast rv⟩
theorem mut_popAt : MutOk c rPopAt popAtF := fun w H l vs us xs as ys d Q h1 h2 h3 h4 q => by
  cases as with
  | nil => cases h4
  | cons a t =>
    cases t with
    | cons _ _ => cases a <;> cases h4
    | nil =>
      obtain ⟨v, t, rfl, r1, r2⟩ := reps_cons.mp h3
      cases reps_nil.mp r2
      cases a with
      | int i =>
        have h4 : (if -(2 ^ 63) ≤ i ∧ i < 2 ^ 63 then (match seqIndex? i xs.length with
          | some k => match xs[k]? with | some d => some (d, xs.eraseIdx k) | none => none
          | none => none) else none) = some (d, ys) := h4
        by_cases z : -(2 ^ 63) ≤ i ∧ i < 2 ^ 63
        · rw [if_pos z] at h4
          cases e1 : seqIndex? i xs.length with
          | none => rw [e1] at h4; cases h4
          | some k =>
            rw [e1] at h4
            cases e2 : xs[k]? with
            | none => simp only [e2] at h4; cases h4
            | some y =>
              simp only [e2] at h4; cases h4
              obtain ⟨u, hu, ru⟩ := h2.get e2
              exact ⟨l, vs, i, k, u, rfl, by rw [rep_int r1], h1, z.1, z.2, by rw [← h2.length]; exact e1, hu, q _ _ (h2.eraseIdx k) ru⟩
        · rw [if_neg z] at h4; cases h4
      | _ => cases h4
theorem mut_rev : MutOk c rReverse revF := fun w H l vs us xs as ys d Q h1 h2 h3 h4 q => by
  cases as with
  | cons _ _ => cases h4
  | nil =>
    cases reps_nil.mp h3
    have h4 : some (D.non, xs.reverse) = some (d, ys) := h4
    cases h4
    exact ⟨l, vs, rfl, rfl, h1, q _ _ h2.reverse rep_non⟩
theorem mut_clr : MutOk c rClear clrF := fun w H l vs us xs as ys d Q h1 h2 h3 h4 q => by
  cases as with
  | cons _ _ => cases h4
  | nil =>
    cases reps_nil.mp h3
    have h4 : some (D.non, []) = some (d, ys) := h4
    cases h4
    exact ⟨l, vs, rfl, rfl, h1, q _ _ .nil rep_non⟩
end
section
variable {X : Cx} {E : XK} {apos cpos pos : Pos} {o e : Expr} {es : List Expr} {P : M Pl} {m : M D} {ms : M (List D)}
theorem me_append (ho : PE X o (TP (cg X) E P)) (ha : PE X e (TM (cg X) E m)) (hbase : attributeBase o "append" X.env (eval o X.env) = eval o X.env := by rfl)
    (hfew : ((backTo cpos (starEach [e] X.env)).all (fun x => !x.1) && (backToKw cpos (keywordEach [] X.env)).all (fun x => x.1.isSome)
      && decide ([e].length + ([] : List Keyword).length + (if ([] : List Keyword).isEmpty then 0 else 1) < 30)) = true := by rfl)
    (hline : (apos.endLine == cpos.line) = true := by rfl) (hs : starEach [e] X.env = (false, eval e X.env) :: starEach [] X.env := by rfl) :
    PE X (.Call (.Attribute o "append" apos) [e] [] cpos) (TM (cg X) E (mutM appF P (consM m nilM))) :=
  PE.weak (pe_bm PySem.F.plainAttrs_list PySem.F.slot_list_append PySem.F.type_list_append mt_append ho (ml_cons ha ml_nil hs) hbase hfew hline hs) (tmut_of mut_app)
theorem me_popAt (ho : PE X o (TP (cg X) E P)) (ha : PE X e (TM (cg X) E m)) (hbase : attributeBase o "pop" X.env (eval o X.env) = eval o X.env := by rfl)
    (hfew : ((backTo cpos (starEach [e] X.env)).all (fun x => !x.1) && (backToKw cpos (keywordEach [] X.env)).all (fun x => x.1.isSome)
      && decide ([e].length + ([] : List Keyword).length + (if ([] : List Keyword).isEmpty then 0 else 1) < 30)) = true := by rfl)
    (hline : (apos.endLine == cpos.line) = true := by rfl) (hs : starEach [e] X.env = (false, eval e X.env) :: starEach [] X.env := by rfl) :
    PE X (.Call (.Attribute o "pop" apos) [e] [] cpos) (TM (cg X) E (mutM popAtF P (consM m nilM))) :=
  PE.weak (pe_bm PySem.F.plainAttrs_list PySem.F.slot_list_pop PySem.F.type_list_pop mt_popAt ho (ml_cons ha ml_nil hs) hbase hfew hline hs) (tmut_of mut_popAt)
theorem tmut0_of {c : Gm} {E : XK} {K : PySem.W.Frag} {r : V → List V → Hp → VK → Prop} {f : List D → List D → Option (D × List D)} (hf : MutOk c r f) {P : M Pl} :
    ∀ σ H Q, TM c E (mutM f P nilM) σ H Q → tBM0 K "list" r (TP c E P) σ H Q := fun σ H Q h => by
  obtain ⟨w, S, s, po⟩ := tmut_of (K := K) hf σ H Q h
  exact ⟨w, S, s, po.imp fun p w1 S1 H1 st1 s1 k a pa => by
    obtain ⟨k1, w2, S2, s2, k2⟩ := k a pa
    exact ⟨k1, k2 w2 H1 (.refl ..) s2 [] .nil⟩⟩
theorem me_pop0 (ho : PE X o (TP (cg X) E P)) (hbase : attributeBase o "pop" X.env (eval o X.env) = eval o X.env := by rfl) (hline : (apos.endLine == cpos.line) = true := by rfl) :
    PE X (.Call (.Attribute o "pop" apos) [] [] cpos) (TM (cg X) E (mutM popF P nilM)) := PE.weak (pe_bm0 PySem.F.plainAttrs_list PySem.F.slot_list_pop PySem.F.type_list_pop mt_pop ho hbase hline) (tmut0_of mut_pop)
theorem me_reverse (ho : PE X o (TP (cg X) E P)) (hbase : attributeBase o "reverse" X.env (eval o X.env) = eval o X.env := by rfl) (hline : (apos.endLine == cpos.line) = true := by rfl) :
    PE X (.Call (.Attribute o "reverse" apos) [] [] cpos) (TM (cg X) E (mutM revF P nilM)) := PE.weak (pe_bm0 PySem.F.plainAttrs_list PySem.F.slot_list_reverse PySem.F.type_list_reverse mt_reverse ho hbase hline) (tmut0_of mut_rev)
theorem me_clear (ho : PE X o (TP (cg X) E P)) (hbase : attributeBase o "clear" X.env (eval o X.env) = eval o X.env := by rfl) (hline : (apos.endLine == cpos.line) = true := by rfl) :
    PE X (.Call (.Attribute o "clear" apos) [] [] cpos) (TM (cg X) E (mutM clrF P nilM)) := PE.weak (pe_bm0 PySem.F.plainAttrs_list PySem.F.slot_list_clear PySem.F.type_list_clear mt_clear ho hbase hline) (tmut0_of mut_clr)

/-! ### extend: by what stands in a list then -/
def extM (P : M Pl) (h : M Hd) : M D := bd P fun p => bd (chkL p) fun _ => bd h fun y => bd (see y) fun v S => match getP p S with
  | some (.lst xs) => if v.1 = true ∧ xs.length + v.2.length ≤ sizeLine then .ok .non (putP p (.lst (xs ++ v.2)) S) else .stuck
  | _ => .stuck
theorem text_of {c : Gm} {E : XK} {K : PySem.W.Frag} {P : M Pl} {h : M Hd} : ∀ σ H Q, TM c E (extM P h) σ H Q → tBM K "list" rExtend (TP c E P) (tCons (TH c E h) tNil) σ H Q := by
  rintro σ H Q ⟨w, S, s, po⟩
  obtain ⟨kk, hkk⟩ : ∃ kk : Pl → Hd → Vw → M D, kk = fun p y v S => match getP p S with
    | some (.lst xs) => if v.1 = true ∧ xs.length + v.2.length ≤ sizeLine then .ok .non (putP p (.lst (xs ++ v.2)) S) else .stuck
    | _ => .stuck := ⟨_, rfl⟩
  have po : Po c E ((P S).bind fun p => bd (chkL p) fun _ => bd h fun y => bd (see y) fun v => kk p y v) w S σ H (KD c Q) := by rw [hkk]; exact po
  refine ⟨w, S, s, Po.two (k := fun p => bd (chkL p) fun _ => bd h fun y => bd (see y) fun v => kk p y v) po fun p w1 S1 H1 st1 s1 po1 a pa => ?_⟩
  have po1 : Po c E (R.bind (chkL p S1) fun _ => bd h fun y => bd (see y) fun v => kk p y v) w1 S1 σ H1 (KD c Q) := po1
  unfold chkL at po1
  cases eg : getP p S1 with
  | none => rw [eg] at po1; exact po1.elim
  | some x =>
    rw [eg] at po1
    cases x with
    | lst xs =>
      obtain ⟨⟨vs, h1, h2⟩, h3⟩ := s1.getP pa eg
      refine ⟨.inl ⟨rfl, vs, .inl (.inl h1)⟩, w1, S1, s1, ?_⟩
      refine Po.two (k := fun y => bd (see y) fun v => kk p y v) po1 fun y w2 S2 H2 st2 s2 po2 v rv => ?_
      obtain ⟨b, ds, a2, vs2, e1, e2, e3, e4, po3⟩ := Po.see (k := fun v => kk p y v) s2 rv po2
      subst e2
      have pa2 : PlAt w2 σ a p := pa.mono st2.le
      rw [hkk] at po3
      cases eg2 : getP p S2 with
      | none => simp only [eg2] at po3; exact po3.elim
      | some x2 =>
        simp only [eg2] at po3
        cases x2 with
        | lst xs2 =>
          obtain ⟨⟨vs3, k1, k2⟩, k3⟩ := s2.getP pa2 eg2
          simp only at po3
          by_cases z : b = true ∧ xs2.length + ds.length ≤ sizeLine
          · rw [if_pos z] at po3
            obtain ⟨rfl, z⟩ := z
            refine ⟨a, a2, vs3, vs2, rfl, rfl, k1, e3, by rw [← k2.length, ← e4.length]; exact z, ?_⟩
            exact po3 w2 _ (Step.putP s2 pa2 eg2) (s2.putP pa2 eg2 ⟨_, upd_same, k2.append e4⟩) .non rep_non
          · rw [if_neg z] at po3; exact po3.elim
        | dK _ => exact po3.elim
        | dT _ => exact po3.elim
        | ins _ _ => exact po3.elim
    | dK _ => exact po1.elim
    | dT _ => exact po1.elim
    | ins _ _ => exact po1.elim
theorem me_extend {h : M Hd} (ho : PE X o (TP (cg X) E P)) (ha : PE X e (TH (cg X) E h)) (hbase : attributeBase o "extend" X.env (eval o X.env) = eval o X.env := by rfl)
    (hfew : ((backTo cpos (starEach [e] X.env)).all (fun x => !x.1) && (backToKw cpos (keywordEach [] X.env)).all (fun x => x.1.isSome)
      && decide ([e].length + ([] : List Keyword).length + (if ([] : List Keyword).isEmpty then 0 else 1) < 30)) = true := by rfl)
    (hline : (apos.endLine == cpos.line) = true := by rfl) (hs : starEach [e] X.env = (false, eval e X.env) :: starEach [] X.env := by rfl) :
    PE X (.Call (.Attribute o "extend" apos) [e] [] cpos) (TM (cg X) E (extM P h)) :=
  PE.weak (pe_bm PySem.F.plainAttrs_list PySem.F.slot_list_extend PySem.F.type_list_extend mt_extend ho (pa_cons ha pa_nil hs) hbase hfew hline hs) text_of

/-! ### l.index(x) -/
def indexD (v : Vw) (d : D) : M D := if v.1 = true then (match pyD d, pyDs v.2 with
  | some p, some ps => if SeqAt.shaped p = true ∧ SeqAt.shaped (.list ps) = true then (match ps.findIdx? fun z => PyData.eqv z p with
    | some j => ret (.int (j : Nat))
    | none => nope) else nope
  | _, _ => nope) else nope
def indexM (h : M Hd) (m : M D) : M D := bd h fun x => bd (see x) fun u => if u.1 = true then bd m fun d => bd (see x) fun v => indexD v d else nope
theorem tindex_of {c : Gm} {E : XK} {h : M Hd} {m : M D} : ∀ σ H Q, TM c E (indexM h m) σ H Q → tBM c.K "list" (rIndexD c.K) (TH c E h) (tCons (TM c E m) tNil) σ H Q := by
  rintro σ H Q ⟨w, S, s, po⟩
  unfold indexM at po
  refine ⟨w, S, s, Po.two po fun x w1 S1 H1 st1 s1 po1 v r => ?_⟩
  obtain ⟨b, ds, a, vs, e1, e2, e3, e4, po2⟩ := Po.see (k := fun u => if u.1 = true then bd m fun d => bd (see x) fun v => indexD v d else nope) s1 r po1
  subst e2
  cases b with
  | false => exact po2.elim
  | true =>
    have po2 : Po c E ((m S1).bind fun d => bd (see x) fun v => indexD v d) w1 S1 σ H1 (KD c Q) := po2
    refine ⟨.inl ⟨rfl, vs, seqL_t e3⟩, w1, S1, s1, Po.two po2 fun d w2 S2 H2 st2 s2 po3 v2 r2 => ?_⟩
    obtain ⟨b', ds', a', vs', f1, f2, f3, f4, po4⟩ := Po.see (k := fun v => indexD v d) s2 (HdR.mono st2.le r) po3
    cases f2
    unfold indexD at po4
    cases b' with
    | false => exact po4.elim
    | true =>
      simp only [if_pos] at po4
      cases ep : pyD d with
      | none => simp only [ep] at po4; exact po4.elim
      | some p =>
        cases es : pyDs ds' with
        | none => simp only [ep, es] at po4; exact po4.elim
        | some ps =>
          simp only [ep, es] at po4
          by_cases z : SeqAt.shaped p = true ∧ SeqAt.shaped (.list ps) = true
          case neg => rw [if_neg z] at po4; exact po4.elim
          rw [if_pos z] at po4
          cases ef : ps.findIdx? (fun z => PyData.eqv z p) with
          | none => simp only [ef] at po4; exact po4.elim
          | some j =>
            simp only [ef] at po4
            have hx := List.findIdx?_eq_some_iff_getElem.mp ef
            obtain ⟨hj, hp, hno⟩ := hx
            refine ⟨a, v2, p, ps, j, ps[j], rfl, rfl, .lst (seqL_t f3) (dps_of s2.fz _ _ _ f4 es), dp_of s2.fz _ _ _ r2 ep, z.2, z.1, List.getElem?_eq_getElem hj, hp, fun k z' hk hz' => ?_, po4 w2 H2 (.refl ..) s2 _ of_int⟩
            have hk' : k < ps.length := Nat.lt_trans hk hj
            rw [List.getElem?_eq_getElem hk'] at hz'
            cases hz'
            have := hno k hk
            simpa using this
theorem me_index {n : Nat} {h : M Hd} (hr : Room n X.A) (ho : PE X o (TH (cg X) E h)) (ha : PE X e (TM (cg X) E m)) (hbase : attributeBase o "index" X.env (eval o X.env) = eval o X.env := by rfl)
    (hfew : ((backTo cpos (starEach [e] X.env)).all (fun x => !x.1) && (backToKw cpos (keywordEach [] X.env)).all (fun x => x.1.isSome)
      && decide ([e].length + ([] : List Keyword).length + (if ([] : List Keyword).isEmpty then 0 else 1) < 30)) = true := by rfl)
    (hline : (apos.endLine == cpos.line) = true := by rfl) (hs : starEach [e] X.env = (false, eval e X.env) :: starEach [] X.env := by rfl) :
    PE X (.Call (.Attribute o "index" apos) [e] [] cpos) (TM (cg X) E (indexM h m)) :=
  PE.weak (pe_bm PySem.F.plainAttrs_list PySem.F.slot_list_index PySem.F.type_list_index (mt_indexD (hu65 hr)) ho (pa_cons ha pa_nil hs) hbase hfew hline hs) tindex_of
end
end Mm
end

section
/-! MmI: items set, changed by an operator; dicts; names side by side. -/
namespace Mm
open PySem L2
open PyProof.Rows (envOfC)

/-! ### tables -/
section
variable {κ α : Type} [DecidableEq κ]
def valA (kvs : List (κ × α)) (k : κ) : Option α := (kvs.find? fun kv => decide (kv.1 = k)).map (·.2)
def putA (kvs : List (κ × α)) (k : κ) (v : α) : List (κ × α) :=
  if (kvs.any fun kv => decide (kv.1 = k)) = true then kvs.map (fun kv => if kv.1 = k then (kv.1, v) else kv) else kvs ++ [(k, v)]
end
def TabR (c : Gm) (w : Wd) {κ : Type} (kvs : List (κ × D)) (ys : List (κ × V)) : Prop := ys.map (·.1) = kvs.map (·.1) ∧ Reps c w (kvs.map (·.2)) (ys.map (·.2))
section
variable {c : Gm} {w : Wd} {κ : Type}
theorem tab_nil : TabR c w ([] : List (κ × D)) [] := ⟨rfl, .nil⟩
theorem tab_cons {k : κ} {d : D} {v : V} {kvs : List (κ × D)} {ys : List (κ × V)} (h : Rep c w d v) (t : TabR c w kvs ys) : TabR c w ((k, d) :: kvs) ((k, v) :: ys) :=
  ⟨by rw [List.map_cons, List.map_cons, t.1], by rw [List.map_cons, List.map_cons]; exact .cons h t.2⟩
theorem tab_inv {kvs : List (κ × D)} {p : κ × D} {ys : List (κ × V)} (h : TabR c w (p :: kvs) ys) : ∃ v r, ys = (p.1, v) :: r ∧ Rep c w p.2 v ∧ TabR c w kvs r := by
  obtain ⟨h1, h2⟩ := h
  cases ys with
  | nil => cases h1
  | cons y r =>
    obtain ⟨k, v⟩ := y
    rw [List.map_cons, List.map_cons] at h1 h2
    injection h1 with e1 e2
    obtain ⟨v', r', e3, q1, q2⟩ := reps_cons.mp h2
    injection e3 with e4 e5
    have e1 : k = p.1 := e1
    subst e1
    have e4 : v = v' := e4
    subst e4
    exact ⟨v, r, rfl, q1, e2, by rw [e5]; exact q2⟩
theorem tab_len : ∀ {kvs : List (κ × D)} {ys : List (κ × V)}, TabR c w kvs ys → kvs.length = ys.length := fun h => by
  have := congrArg List.length h.1
  simpa using this.symm
theorem tab_app : ∀ {kvs kvs' : List (κ × D)} {ys ys' : List (κ × V)}, TabR c w kvs ys → TabR c w kvs' ys' → TabR c w (kvs ++ kvs') (ys ++ ys') := fun h h' =>
  ⟨by rw [List.map_append, List.map_append, h.1, h'.1], by rw [List.map_append, List.map_append]; exact h.2.append h'.2⟩
variable [DecidableEq κ]
theorem tab_val : ∀ {kvs : List (κ × D)} {ys : List (κ × V)} {k : κ}, TabR c w kvs ys → match valA kvs k with | some d => ∃ v, valV ys k = some v ∧ Rep c w d v | none => valV ys k = none
  | [], ys, k, h => by
    have : ys = [] := by have := h.1; simpa using this
    subst this; rfl
  | p :: kvs, ys, k, h => by
    obtain ⟨v, r, rfl, h1, h2⟩ := tab_inv h
    by_cases e : p.1 = k
    · have e1 : valA (p :: kvs) k = some p.2 := by simp [valA, List.find?_cons, e]
      rw [e1]
      exact ⟨v, valV_pos (p := (p.1, v)) e, h1⟩
    · have e1 : valA (p :: kvs) k = valA kvs k := by simp [valA, List.find?_cons, e]
      rw [e1, valV_neg (p := (p.1, v)) e]
      exact tab_val h2
theorem tab_any : ∀ {kvs : List (κ × D)} {ys : List (κ × V)} {k : κ}, TabR c w kvs ys → (ys.any fun kv => decide (kv.1 = k)) = kvs.any fun kv => decide (kv.1 = k)
  | [], ys, k, h => by
    have : ys = [] := by have := h.1; simpa using this
    subst this; rfl
  | p :: kvs, ys, k, h => by
    obtain ⟨v, r, rfl, h1, h2⟩ := tab_inv h
    rw [List.any_cons, List.any_cons, tab_any h2]
theorem tab_map {d : D} {v : V} {k : κ} (q : Rep c w d v) : ∀ {kvs : List (κ × D)} {ys : List (κ × V)}, TabR c w kvs ys → TabR c w (kvs.map fun kv => if kv.1 = k then (kv.1, d) else kv) (ys.map fun kv => if kv.1 = k then (kv.1, v) else kv)
  | [], ys, h => by
    have : ys = [] := by have := h.1; simpa using this
    subst this; exact tab_nil
  | p :: kvs, ys, h => by
    obtain ⟨u, r, rfl, h1, h2⟩ := tab_inv h
    rw [List.map_cons, List.map_cons]
    by_cases e : p.1 = k
    · rw [if_pos e, if_pos (show ((p.1, u) : κ × V).1 = k from e)]
      exact tab_cons q (tab_map q h2)
    · rw [if_neg e, if_neg (show ¬ ((p.1, u) : κ × V).1 = k from e)]
      exact tab_cons h1 (tab_map q h2)
theorem tab_put {d : D} {v : V} {k : κ} {kvs : List (κ × D)} {ys : List (κ × V)} (h : TabR c w kvs ys) (q : Rep c w d v) : TabR c w (putA kvs k d) (putK ys k v) := by
  unfold putA putK
  rw [tab_any h]
  by_cases e : (kvs.any fun kv => decide (kv.1 = k)) = true
  · rw [if_pos e, if_pos e]; exact tab_map q h
  · rw [if_neg e, if_neg e]; exact tab_app h (tab_cons q tab_nil)
end
def keyD : D → Option Key
  | .int i => some (.inl i)
  | .str x => some (.inr x)
  | _ => none
def keyDs : List D → Option (List Key)
  | [] => some []
  | d :: ds => match keyD d, keyDs ds with
    | some k, some ks => some (k :: ks)
    | _, _ => none
def keysD : D → Option (List Key)
  | .tup ds => keyDs ds
  | _ => none
section
variable {c : Gm} {w : Wd} {S : Sg} {σ : FSt} {H : Hp}
theorem keyD_of {d : D} {v : V} {k : Key} (r : Rep c w d v) (e : keyD d = some k) : v = kV k := by
  cases d with
  | int i => cases e; rw [rep_int r]; rfl
  | str x => cases e; simp only [Rep] at r; rw [r]; rfl
  | _ => cases e
theorem keyDs_of : ∀ {ds : List D} {vs : List V} {ks : List Key}, Reps c w ds vs → keyDs ds = some ks → vs = ks.map kV
  | [], vs, ks, r, e => by cases e; exact reps_nil.mp r
  | d :: ds, vs, ks, r, e => by
    obtain ⟨v, t, rfl, r1, r2⟩ := reps_cons.mp r
    unfold keyDs at e
    cases e1 : keyD d with
    | none => rw [e1] at e; simp at e
    | some k =>
      cases e2 : keyDs ds with
      | none => rw [e1, e2] at e; simp at e
      | some ks' =>
        rw [e1, e2] at e
        cases e
        rw [keyD_of r1 e1, keyDs_of r2 e2] <;> rfl
theorem keysD_of {d : D} {v : V} {ks : List Key} (s : Sim c w S σ H) (r : Rep c w d v) (e : keysD d = some ks) : ∃ b, v = .ref b ∧ H b = some (.tup (ks.map kV)) := by
  cases d with
  | tup ds =>
    simp only [Rep] at r
    obtain ⟨a, vs, rfl, h1, h2⟩ := r
    exact ⟨a, rfl, by rw [← keyDs_of h2 e]; exact s.fz _ _ h1⟩
  | _ => cases e
end

/-! ### an item is got, is set -/
def getC : Cell → D → Option D
  | .lst xs, .int i => atI xs i
  | .lst _, _ => none
  | .dK kvs, i => match keyD i with | some k => valA kvs k | none => none
  | .dT kvs, i => match keysD i with | some k => valA kvs k | none => none
  | .ins _ _, _ => none
def setC : Cell → D → D → Option Cell
  | .lst xs, .int i, d => match ixN xs.length i with | some j => some (.lst (xs.set j d)) | none => none
  | .lst _, _, _ => none
  | .dK kvs, i, d => match keyD i with | some k => if kvs.length < sizeLine then some (.dK (putA kvs k d)) else none | none => none
  | .dT kvs, i, d => match keysD i with | some k => if kvs.length < sizeLine then some (.dT (putA kvs k d)) else none | none => none
  | .ins _ _, _, _ => none
def rSetA : TSet := fun o i v H Q => rSetL o i v H Q ∨ rSetD o i v H Q
def tGetA : V → V → Hp → VK → Prop := fun o i H Q => (∃ p xs k z, o = .ref p ∧ i = .int k ∧ H p = some (.lst xs) ∧ atI xs k = some z ∧ Q z H) ∨ ∃ a z, o = .ref a ∧ DGet H a i (some z) ∧ Q z H
theorem setA {X : Cx} {n : Nat} (hr : Room n X.A) : PSet X rSetA := by
  intro pins s σ H o i v ov iv u Q I ro ri rv h
  rcases h with h | h
  · exact set_list pins s σ H o i v ov iv u Q I ro ri rv h
  · exact set_dict (by have := hr.un; omega) pins s σ H o i v ov iv u Q I ro ri rv h
theorem getA {X : Cx} {n : Nat} (hr : Room n X.A) : PGet X tGetA := by
  intro pins s σ H o i ov iv Q I ro ri h
  rcases h with ⟨p, xs, k, z, rfl, rfl, hp, he, q⟩ | ⟨a, z, rfl, g, q⟩
  · cases ro
    obtain ⟨t, rfl⟩ := ri
    obtain ⟨its, r, pl, hz⟩ := I.list (.inl (.inl hp))
    obtain ⟨j, h1, h2, h3, h4, h5⟩ := atI_get he
    obtain ⟨w, ew, rw'⟩ := r.get h2
    have hl := r.length
    have hn := line63
    have fin : EP X pins σ Q w s := ⟨z, H, I, rw', q⟩
    by_cases h0 : 0 ≤ k
    · have hj : k.toNat = j := by
        rw [seqIndex_of h0 h5] at h1
        exact Option.some.inj h1
      exact wpAny_getItem_list pl.isList h0 (by omega) (by rw [hj]; simpa using ew) fin
    · have hj : (k + (its.toArray.size : Int)).toNat = j := by
        rw [seqIndex_neg (by omega) h4] at h1
        rw [List.size_toArray, ← hl]
        exact Option.some.inj h1
      exact wpAny_getItem_list_neg pl.isList (by omega) (by rw [List.size_toArray] <;> omega) (by omega) (by rw [hj]; simpa using ew) fin
  · cases ro
    exact d_getItem (by have := hr.un; omega) I g ri fun w' s' I' r' => ⟨z, H, I', r', q⟩
section
variable {c : Gm} {w : Wd} {S : Sg} {σ : FSt} {H : Hp} {P : Pl} {a : Addr} {x y : Cell} {i d : D} {iv v : V}
theorem setC_of (s : Sim c w S σ H) (pa : PlAt w σ a P) (eg : getP P S = some x) (ri : Rep c w i iv) (rd : Rep c w d v) (e : setC x i d = some y) {Q : Hp → Prop} (q : ∀ H', Step w S σ H w (putP P y S) σ H' → Sim c w (putP P y S) σ H' → Q H') : rSetA (.ref a) iv v H Q := by
  obtain ⟨k1, k2⟩ := s.getP pa eg
  cases x with
  | lst xs =>
    cases i with
    | int k =>
      obtain ⟨vs, h1, h2⟩ := k1
      simp only [setC] at e
      cases e1 : ixN xs.length k with
      | none => rw [e1] at e; cases e
      | some j =>
        rw [e1] at e; cases e
        exact .inl ⟨a, vs, k, j, rfl, rep_int ri, h1, by rw [← h2.length]; exact e1, q _ (Step.putP s pa eg) (s.putP pa eg ⟨_, upd_same, h2.set rd j⟩)⟩
    | _ => cases e
  | dK kvs =>
    obtain ⟨ys, h1, h2, h3⟩ := k1
    have T : TabR c w kvs ys := ⟨h2, h3⟩
    simp only [setC] at e
    cases e1 : keyD i with
    | none => rw [e1] at e; cases e
    | some k =>
      rw [e1] at e
      by_cases z : kvs.length < sizeLine
      · simp only [if_pos z] at e; cases e
        have T' := tab_put (k := k) T rd
        exact .inr ⟨a, _, rfl, .inl ⟨ys, k, h1, keyD_of ri e1, by rw [← tab_len T]; exact z, rfl⟩, q _ (Step.putP s pa eg) (s.putP pa eg ⟨_, upd_same, T'.1, T'.2⟩)⟩
      · simp only [if_neg z] at e; cases e
  | dT kvs =>
    obtain ⟨ys, h1, h2, h3⟩ := k1
    have T : TabR c w kvs ys := ⟨h2, h3⟩
    simp only [setC] at e
    cases e1 : keysD i with
    | none => rw [e1] at e; cases e
    | some k =>
      rw [e1] at e
      by_cases z : kvs.length < sizeLine
      · simp only [if_pos z] at e; cases e
        have T' := tab_put (k := k) T rd
        obtain ⟨b, rfl, hb⟩ := keysD_of s ri e1
        exact .inr ⟨a, _, rfl, .inr ⟨ys, k, b, h1, rfl, hb, by rw [← tab_len T]; exact z, rfl⟩, q _ (Step.putP s pa eg) (s.putP pa eg ⟨_, upd_same, T'.1, T'.2⟩)⟩
      · simp only [if_neg z] at e; cases e
  | ins _ _ => cases e
theorem getC_of (s : Sim c w S σ H) (k1 : CellR c w H a x) (ri : Rep c w i iv) (e : getC x i = some d) {Q : VK} (q : ∀ v, Rep c w d v → Q v H) : tGetA (.ref a) iv H Q := by
  cases x with
  | lst xs =>
    cases i with
    | int k =>
      obtain ⟨vs, h1, h2⟩ := k1
      obtain ⟨v, hv, rv⟩ := atI_reps h2 e
      exact .inl ⟨a, vs, k, v, rfl, rep_int ri, h1, hv, q v rv⟩
    | _ => cases e
  | dK kvs =>
    obtain ⟨ys, h1, h2, h3⟩ := k1
    have T : TabR c w kvs ys := ⟨h2, h3⟩
    simp only [getC] at e
    cases e1 : keyD i with
    | none => rw [e1] at e; cases e
    | some k =>
      rw [e1] at e
      have z := tab_val (k := k) T
      have e : valA kvs k = some d := e
      rw [e] at z
      obtain ⟨v, hv, rv⟩ := z
      exact .inr ⟨a, v, rfl, .inl ⟨ys, k, .inl h1, keyD_of ri e1, hv.symm⟩, q v rv⟩
  | dT kvs =>
    obtain ⟨ys, h1, h2, h3⟩ := k1
    have T : TabR c w kvs ys := ⟨h2, h3⟩
    simp only [getC] at e
    cases e1 : keysD i with
    | none => rw [e1] at e; cases e
    | some k =>
      rw [e1] at e
      have z := tab_val (k := k) T
      have e : valA kvs k = some d := e
      rw [e] at z
      obtain ⟨v, hv, rv⟩ := z
      obtain ⟨b, rfl, hb⟩ := keysD_of s ri e1
      exact .inr ⟨a, v, rfl, .inr ⟨ys, k, b, .inl h1, rfl, hb, hv.symm⟩, q v rv⟩
  | ins _ _ => cases e
end
def putIx (P : Pl) (i d : D) : M Fl := fun S => match getP P S with
  | some x => match setC x i d with | some y => .ok .nx (putP P y S) | none => .stuck
  | none => .stuck
def getIx (P : Pl) (i : D) : M D := fun S => match getP P S with
  | some x => match getC x i with | some d => .ok d S | none => .stuck
  | none => .stuck
def setIxM (mv : M D) (P : M Pl) (mi : M D) : M Fl := bd mv fun d => bd P fun p => bd mi fun i => putIx p i d
def augIxM (f : D → D → M D) (P : M Pl) (mi mv : M D) : M Fl := bd P fun p => bd mi fun i => bd (getIx p i) fun old => bd mv fun y => bd (f old y) fun z => putIx p i z
section
variable {c : Gm} {E : XK} {w : Wd} {S : Sg} {σ : FSt} {H : Hp} {P : Pl} {a : Addr} {i d : D} {iv v : V} {Dn : Ends}
theorem putIx_of (s : Sim c w S σ H) (pa : PlAt w σ a P) (ri : Rep c w i iv) (rd : Rep c w d v) (po : PoS c E (putIx P i d S) w S σ H Dn) : rSetA (.ref a) iv v H fun H' => Dn.nx σ H' := by
  unfold putIx at po
  cases eg : getP P S with
  | none => simp only [eg] at po; exact po.elim
  | some x =>
    simp only [eg] at po
    cases es : setC x i d with
    | none => simp only [es] at po; exact po.elim
    | some y =>
      simp only [es] at po
      exact setC_of s pa eg ri rd es fun H' st s' => po w σ H' st s'
end
section
variable {X : Cx} {E : XK} {pos tpos : Pos} {o i e : Expr} {P : M Pl} {mi mv : M D} {n : Nat}
theorem ms_setIx (hr : Room n X.A) (he : PE X e (TM (cg X) E mv)) (ho : PE X o (TP (cg X) E P)) (hi : PE X i (TM (cg X) E mi))
    (ha : ∀ v, assign (.Subscript o i tpos) X.env v = (do
      let ov ← holding [v] (eval o X.env)
      let iv ← holding [v, ov] (eval i X.env)
      standAt tpos
      holding [v, ov, iv] (setItem ov iv v)
      release [v, ov, iv] []) := by intro _; rfl)
    (hs : swapsWithSole [.Subscript o i tpos] e pos.line X.env = pure false := by rfl) (hw : swappedStores [.Subscript o i tpos] e X.env = pure none := by rfl)
    (h1 : (assignEach [.Subscript o i tpos] X.env).map (·.2) = [assign (.Subscript o i tpos) X.env] := by rfl) : PS X (.Assign [.Subscript o i tpos] e pos) (TSm (cg X) E (setIxM mv P mi)) := by
  refine PS.weak (ps_asg he (pg_sub ho hi (setA hr) ha) hs hw h1) fun Dn σ H ⟨w, S, s, po⟩ => ?_
  unfold setIxM at po
  refine ⟨w, S, s, PoS.two po fun d w1 S1 H1 st1 s1 po1 v r => ?_⟩
  refine ⟨w1, S1, s1, PoS.two po1 fun p w2 S2 H2 st2 s2 po2 a pa => ?_⟩
  refine ⟨w2, S2, s2, PoS.two po2 fun j w3 S3 H3 st3 s3 po3 iv ri => ?_⟩
  exact putIx_of s3 (pa.mono st3.le) ri (Rep.mono (st2.le.trans st3.le) _ _ r) po3
theorem ms_augIx {f : D → D → M D} {op : Operator} {tip : TIp} (hr : Room n X.A) (hp : PIp X op tip) (hf : ∀ w S σ H d1 d2 v1 v2 Q, Sim (cg X) w S σ H → Rep (cg X) w d1 v1 → Rep (cg X) w d2 v2 → Po (cg X) E (f d1 d2 S) w S σ H (KD (cg X) Q) → tip v1 v2 H Q)
    (ho : PE X o (TP (cg X) E P)) (hi : PE X i (TM (cg X) E mi)) (he : PE X e (TM (cg X) E mv))
    (ha : ∀ ov iv new, augStore i ov iv new = (do holding [new, ov, iv] (setItem ov iv new); release [new, ov, iv] []; pure .next) := by intros; rfl) : PS X (.AugAssign (.Subscript o i tpos) op e pos) (TSm (cg X) E (augIxM f P mi mv)) := by
  refine PS.weak (ps_augS ho hi (getA hr) he hp (setA hr) ha) fun Dn σ H ⟨w, S, s, po⟩ => ?_
  unfold augIxM at po
  refine ⟨w, S, s, PoS.two po fun p w1 S1 H1 st1 s1 po1 a pa => ?_⟩
  refine ⟨w1, S1, s1, PoS.two po1 fun j w2 S2 H2 st2 s2 po2 iv ri => ?_⟩
  have po2 : PoS (cg X) E ((getIx p j S2).bind fun old => bd mv fun y => bd (f old y) fun z => putIx p j z) w2 S2 σ H2 Dn := po2
  unfold getIx at po2
  have pa2 := pa.mono st2.le
  cases eg : getP p S2 with
  | none => simp only [eg] at po2; exact po2.elim
  | some x =>
    simp only [eg] at po2
    cases ec : getC x j with
    | none => simp only [ec] at po2; exact po2.elim
    | some old =>
      simp only [ec] at po2
      refine getC_of s2 (s2.getP pa2 eg).1 ri ec fun v rv => ?_
      have po2 : PoS (cg X) E ((mv S2).bind fun y => bd (f old y) fun z => putIx p j z) w2 S2 σ H2 Dn := po2
      refine ⟨w2, S2, s2, PoS.two po2 fun y w3 S3 H3 st3 s3 po3 vy ry => ?_⟩
      have po3 : PoS (cg X) E ((f old y S3).bind fun z => putIx p j z) w3 S3 σ H3 Dn := po3
      refine hf w3 S3 σ H3 old y v vy _ s3 (Rep.mono st3.le _ _ rv) ry (PoS.two po3 fun z w4 S4 H4 st4 s4 po4 vz rz => ?_)
      exact putIx_of s4 ((pa2.mono st3.le).mono st4.le) (Rep.mono (st3.le.trans st4.le) _ _ ri) rz po4
theorem ip_iop {c : Gm} {g : Int → Int → Int} {f : Int → Int → Int} (h : ∀ i j, f i j = g i j) : ∀ w S σ H d1 d2 v1 v2 Q, Sim c w S σ H → Rep c w d1 v1 → Rep c w d2 v2 → Po c E (iop (fun i j => ret (.int (f i j))) d1 d2 S) w S σ H (KD c Q) → ipI g v1 v2 H Q := fun w S σ H d1 d2 v1 v2 Q s r1 r2 po => by
  cases d1 with
  | int i =>
    cases d2 with
    | int j => exact ⟨i, j, rep_int r1, rep_int r2, Po.at s po (by rw [h]; exact of_int)⟩
    | _ => exact po.elim
  | _ => exact po.elim
theorem ms_addIx (hr : Room n X.A) (ho : PE X o (TP (cg X) E P)) (hi : PE X i (TM (cg X) E mi)) (he : PE X e (TM (cg X) E mv))
    (ha : ∀ ov iv new, augStore i ov iv new = (do holding [new, ov, iv] (setItem ov iv new); release [new, ov, iv] []; pure .next) := by intros; rfl) : PS X (.AugAssign (.Subscript o i tpos) .Add e pos) (TSm (cg X) E (augIxM addI P mi mv)) :=
  ms_augIx hr ip_add (ip_iop fun _ _ => rfl) ho hi he ha
theorem ms_subIx (hr : Room n X.A) (ho : PE X o (TP (cg X) E P)) (hi : PE X i (TM (cg X) E mi)) (he : PE X e (TM (cg X) E mv))
    (ha : ∀ ov iv new, augStore i ov iv new = (do holding [new, ov, iv] (setItem ov iv new); release [new, ov, iv] []; pure .next) := by intros; rfl) : PS X (.AugAssign (.Subscript o i tpos) .Sub e pos) (TSm (cg X) E (augIxM subI P mi mv)) :=
  ms_augIx hr ip_sub (ip_iop fun _ _ => rfl) ho hi he ha
end
end Mm
end

section
/-! MmJ: names side by side; attributes, new instances, methods; keywords. -/
namespace Mm
open PySem L2
open PyProof.Rows (envOfC)

/-! ### a, b = x, y: values, and new objects of their own -/
inductive ItR (c : Gm) (w : Wd) (S : Sg) (σ : FSt) (H : Hp) : Hp → List Slot → List V → Prop where
  | nil {H0 : Hp} : ItR c w S σ H H0 [] []
  | val {H0 : Hp} {d : D} {v : V} {xs : List Slot} {vs : List V} : Rep c w d v → ItR c w S σ H H0 xs vs → ItR c w S σ H H0 (.val d :: xs) (v :: vs)
  | own {H0 H1 : Hp} {x : Cell} {p : Addr} {xs : List Slot} {vs : List V} : H0 p = none → CellR c w H p x → w.Hf p = none → ¬ Mu w S σ p → (∀ a, H1 a = none → H0 a = none) → H1 p ≠ none → ItR c w S σ H H1 xs vs → ItR c w S σ H H0 (.own x :: xs) (.ref p :: vs)
theorem ItR.down {c : Gm} {w : Wd} {S : Sg} {σ : FSt} {H H0 H1 : Hp} {xs : List Slot} {vs : List V} (h : ItR c w S σ H H1 xs vs) (k : ∀ a, H1 a = none → H0 a = none) : ItR c w S σ H H0 xs vs := by
  induction h generalizing H0 with
  | nil => exact .nil
  | val r t ih => exact .val r (ih k)
  | own a b c d e f t ih => exact .own (k _ a) b c d (fun x h => k _ (e x h)) f t
theorem ItR.step {c : Gm} {w : Wd} {S S' : Sg} {σ σ' : FSt} {H H1 : Hp} {xs : List Slot} {vs : List V} (h : ItR c w S σ H H1 xs vs) (k : ∀ a, H1 a = none → Mu w S' σ' a → Mu w S σ a) : ItR c w S' σ' H H1 xs vs := by
  induction h with
  | nil => exact .nil
  | val r t ih => exact .val r (ih k)
  | own a b c d e f t ih => exact .own a b c (fun m => d (k _ a m)) e f (ih fun x h => k x (e x h))
def TLs (c : Gm) (E : XK) (m : M (List Slot)) : TA := fun σ H Q => ∃ w S, Sim c w S σ H ∧ Po c E (m S) w S σ H fun xs w' S' H' => ∀ vs, ItR c w' S' σ H' H xs vs → Q vs H'
def pNil : M (List Slot) := ret []
def pVal (m : M D) (ms : M (List Slot)) : M (List Slot) := bd m fun d => bd ms fun xs => ret (.val d :: xs)
def pOwn (m : M Cell) (ms : M (List Slot)) : M (List Slot) := bd m fun x => bd ms fun xs => ret (.own x :: xs)
section
variable {X : Cx} {E : XK} {pos : Pos} {e : Expr} {es : List Expr} {m : M D} {mc : M Cell} {ms : M (List Slot)}
theorem mp_nil : PA X [] (TLs (cg X) E pNil) := PA.weak pa_nil fun σ H Q ⟨w, S, s, po⟩ => po w H (.refl ..) s [] .nil
theorem mp_val (h : PE X e (TM (cg X) E m)) (t : PA X es (TLs (cg X) E ms)) (hs : starEach (e :: es) X.env = (false, eval e X.env) :: starEach es X.env := by rfl) : PA X (e :: es) (TLs (cg X) E (pVal m ms)) := by
  refine PA.weak (pa_cons h t hs) fun σ H Q ⟨w, S, s, po⟩ => ?_
  refine ⟨w, S, s, Po.two (k := fun d => bd ms fun xs => ret (Slot.val d :: xs)) po fun d w1 S1 H1 st1 s1 po1 v r => ?_⟩
  refine ⟨w1, S1, s1, Po.two (k := fun xs => ret (Slot.val d :: xs)) po1 fun xs w2 S2 H2 st2 s2 po2 vs rs => ?_⟩
  exact po2 w2 H2 (.refl ..) s2 _ (.val (Rep.mono st2.le _ _ r) (rs.down st1.th))
theorem mp_own (h : PE X e (TC (cg X) E mc)) (t : PA X es (TLs (cg X) E ms)) (hs : starEach (e :: es) X.env = (false, eval e X.env) :: starEach es X.env := by rfl) : PA X (e :: es) (TLs (cg X) E (pOwn mc ms)) := by
  refine PA.weak (pa_cons h t hs) fun σ H Q ⟨w, S, s, po⟩ => ?_
  refine ⟨w, S, s, Po.two (k := fun x => bd ms fun xs => ret (Slot.own x :: xs)) po fun x w1 S1 H1 st1 s1 po1 p hp hc hf hm => ?_⟩
  refine ⟨w1, S1, s1, Po.two (k := fun xs => ret (Slot.own x :: xs)) po1 fun xs w2 S2 H2 st2 s2 po2 vs rs => ?_⟩
  obtain ⟨o, ho⟩ := hc.there
  obtain ⟨q1, q2, q3⟩ := st2.keep p o ho hf hm
  exact po2 w2 H2 (.refl ..) s2 _ (.own hp (hc.mono st2.le (q1.trans ho.symm)) q2 q3 st1.th (by rw [ho]; exact nofun) rs)
end
def stAll : List Nat → List Slot → Sg → Sg
  | i :: is, x :: xs, S => stAll is xs (S.st i x)
  | _, _, S => S
def svAll : List Nat → List V → FSt → FSt
  | i :: is, v :: vs, σ => svAll is vs (σ.set i (some v))
  | _, _, σ => σ
theorem itR_all {c : Gm} {w0 : Wd} {S0 : Sg} {σ0 : FSt} {Hs : Hp} {w : Wd} {H : Hp} : ∀ (is : List Nat) (xs : List Slot) (vs : List V) (S : Sg) (σ : FSt) (H0 : Hp), ItR c w S σ H H0 xs vs → (∀ a, H0 a = none → Hs a = none) → Sim c w S σ H → Step w0 S0 σ0 Hs w S σ H →
    Sim c w (stAll is xs S) (svAll is vs σ) H ∧ Step w0 S0 σ0 Hs w (stAll is xs S) (svAll is vs σ) H
  | [], xs, vs, S, σ, H0, r, k, s, st => by
    cases xs <;> exact ⟨s, st⟩
  | i :: is, _, _, S, σ, H0, .nil, k, s, st => ⟨s, st⟩
  | i :: is, _, _, S, σ, H0, .val (d := d) (v := v) (xs := xs) (vs := vs) q t, k, s, st =>
    itR_all is xs vs (S.st i (.val d)) (σ.set i (some v)) H0 (t.step fun a _ m => mu_setVal m) k (s.setVal q) (st.trans (Step.setVal ..))
  | i :: is, _, _, S, σ, H0, .own (H1 := H1) (x := x) (p := p) (xs := xs) (vs := vs) a b cc d e f t, k, s, st =>
    itR_all is xs vs (S.st i (.own x)) (σ.set i (some (.ref p))) H1 (t.step fun q hq m => by
      rcases m with m | ⟨j, y, e1, z⟩
      · exact .inl m
      · rcases set_get e1 with ⟨e2, e3⟩ | ⟨e2, e3⟩
        · subst e2
          have z2 : (σ.set j (some (.ref p)))[j]? = some (some (.ref q)) := z
          have hi : j < σ.length := by
            have := (List.getElem?_eq_some_iff.mp z2).1
            rwa [List.length_set] at this
          rw [List.getElem?_set_self hi] at z2
          cases z2
          exact absurd hq f
        · exact .inr ⟨j, y, e3, (slotV_ne e2).mp z⟩) (fun q hq => k q (e q hq)) (s.setOwn b cc d) (Step.setOwn st (k p a))
def parM (is : List Nat) (ms : M (List Slot)) : M Fl := bd ms fun xs S => if xs.length = is.length then .ok .nx (stAll is xs S) else .stuck
theorem itR_len {c : Gm} {w : Wd} {S : Sg} {σ : FSt} {H H0 : Hp} {xs : List Slot} {vs : List V} (h : ItR c w S σ H H0 xs vs) : xs.length = vs.length := by
  induction h with
  | nil => rfl
  | val _ _ ih => rw [List.length_cons, List.length_cons, ih]
  | own _ _ _ _ _ _ _ ih => rw [List.length_cons, List.length_cons, ih]
theorem par_of {c : Gm} {E : XK} {is : List Nat} {ms : M (List Slot)} : ∀ Dn σ H, TSm c E (parM is ms) Dn σ H → TLs c E ms σ H fun vs H1 => vs.length = is.length ∧ Dn.nx (svAll is vs σ) H1 := by
  rintro Dn σ H ⟨w, S, s, po⟩
  refine ⟨w, S, s, ?_⟩
  have po : PoS c E ((ms S).bind fun xs S => if xs.length = is.length then .ok .nx (stAll is xs S) else .stuck) w S σ H Dn := po
  cases e : ms S with
  | ok xs S1 =>
    rw [e] at po
    have po : PoS c E (if xs.length = is.length then .ok .nx (stAll is xs S1) else .stuck) w S σ H Dn := po
    by_cases hl : xs.length = is.length
    · rw [if_pos hl] at po
      intro w1 H1 st1 s1 vs r
      refine ⟨(itR_len r).symm.trans hl, ?_⟩
      obtain ⟨s2, st2⟩ := itR_all is xs vs S1 σ H r (fun _ h => h) s1 st1
      exact po w1 _ H1 st2 s2
    · rw [if_neg hl] at po; exact po.elim
  | exc C fs S1 => rw [e] at po; exact po
  | stuck => rw [e] at po; exact po
section
variable {X : Cx} {E : XK} {ms : M (List Slot)}
theorem ms_par {i j : Nat} {x y : Str} {a b : Expr} {px py pt pos : Pos} {kt k2 pt2} (hc : X.calm = true) (hN : X.N.Nodup) (hi : X.N[i]? = some x) (hj : X.N[j]? = some y) (hij : i ≠ j)
    (hx : X.env.scope.names.lookup x = some .local) (hy : X.env.scope.names.lookup y = some .local) (ha : PA X [a, b] (TLs (cg X) E ms))
    (hw : swappedStores [.Tuple [.Name x px, .Name y py] kt pt] (.Tuple [a, b] k2 pt2) X.env = pure (some [x, y]))
    (hs : swapsWithSole [.Tuple [.Name x px, .Name y py] kt pt] (.Tuple [a, b] k2 pt2) pos.line X.env = pure false := by rfl) :
    PS X (.Assign [.Tuple [.Name x px, .Name y py] kt pt] (.Tuple [a, b] k2 pt2) pos) (TSm (cg X) E (parM [i, j] ms)) := by
  refine PS.weak (ps_par hc hN hi hj hij hx hy ha hw hs) fun Dn σ H h => ?_
  obtain ⟨w, S, s, po⟩ := par_of Dn σ H h
  refine ⟨w, S, s, po.imp fun xs w1 S1 H1 st1 s1 k vs r => ?_⟩
  obtain ⟨hl, q⟩ := k vs r
  match vs, hl, q with
  | [u, v], _, q => exact ⟨u, v, rfl, q⟩
theorem ms_par3 {i j l : Nat} {x y z : Str} {a b c : Expr} {px py pz pt pos : Pos} {kt k2 pt2} (hc : X.calm = true) (hN : X.N.Nodup) (hi : X.N[i]? = some x) (hj : X.N[j]? = some y) (hl : X.N[l]? = some z) (hij : i ≠ j) (hil : i ≠ l) (hjl : j ≠ l)
    (hx : X.env.scope.names.lookup x = some .local) (hy : X.env.scope.names.lookup y = some .local) (hz : X.env.scope.names.lookup z = some .local) (ha : PA X [a, b, c] (TLs (cg X) E ms))
    (hw : swappedStores [.Tuple [.Name x px, .Name y py, .Name z pz] kt pt] (.Tuple [a, b, c] k2 pt2) X.env = pure (some [x, y, z]))
    (hs : swapsWithSole [.Tuple [.Name x px, .Name y py, .Name z pz] kt pt] (.Tuple [a, b, c] k2 pt2) pos.line X.env = pure false := by rfl) :
    PS X (.Assign [.Tuple [.Name x px, .Name y py, .Name z pz] kt pt] (.Tuple [a, b, c] k2 pt2) pos) (TSm (cg X) E (parM [i, j, l] ms)) := by
  refine PS.weak (ps_par3 hc hN hi hj hl hij hil hjl hx hy hz ha hw hs) fun Dn σ H h => ?_
  obtain ⟨w, S, s, po⟩ := par_of Dn σ H h
  refine ⟨w, S, s, po.imp fun xs w1 S1 H1 st1 s1 k vs r => ?_⟩
  obtain ⟨hl, q⟩ := k vs r
  match vs, hl, q with
  | [u, v, t], _, q => exact ⟨u, v, t, rfl, q⟩
/-- target = value, any target -/
def asgM (T : Tg) (m : M D) : M Fl := bd m fun d S => match asg T d S with | some S' => .ok .nx S' | none => .stuck
theorem ms_asg {tg e : Expr} {T : Tg} {m : M D} {pos : Pos} (he : PE X e (TM (cg X) E m)) (hg : PG X tg (gT (cg X) T)) (hs : swapsWithSole [tg] e pos.line X.env = pure false := by rfl) (hw : swappedStores [tg] e X.env = pure none := by rfl)
    (h1 : (assignEach [tg] X.env).map (·.2) = [assign tg X.env] := by rfl) : PS X (.Assign [tg] e pos) (TSm (cg X) E (asgM T m)) := by
  refine PS.weak (ps_asg he hg hs hw h1) fun Dn σ H ⟨w, S, s, po⟩ => ?_
  unfold asgM at po
  refine ⟨w, S, s, PoS.two po fun d w1 S1 H1 st1 s1 po1 v r => ?_⟩
  cases ea : asg T d S1 with
  | none => simp only [ea] at po1; exact po1.elim
  | some S2 =>
    simp only [ea] at po1
    exact ⟨w1, S1, d, S2, s1, r, ea, fun σ' k => po1 w1 σ' H1 k.st k.sim⟩
end

/-! ### attributes -/
def lookA (f : Str) : List (Str × D) → Option D
  | [] => none
  | p :: r => if f = p.1 then some p.2 else lookA f r
def putFA (f : Str) (d : D) : List (Str × D) → List (Str × D)
  | [] => [(f, d)]
  | p :: r => if p.1 = f then (p.1, d) :: r else p :: putFA f d r
theorem tab_look {c : Gm} {w : Wd} {f : Str} {d : D} : ∀ {fs : List (Str × D)} {ys : List (Str × V)}, TabR c w fs ys → lookA f fs = some d → ∃ v, ys.lookup f = some v ∧ Rep c w d v
  | [], ys, h, e => by cases e
  | p :: fs, ys, h, e => by
    obtain ⟨v, r, rfl, h1, h2⟩ := tab_inv h
    unfold lookA at e
    by_cases z : f = p.1
    · rw [if_pos z] at e; cases e
      exact ⟨v, by rw [List.lookup_cons]; simp [z], h1⟩
    · rw [if_neg z] at e
      obtain ⟨u, k1, k2⟩ := tab_look h2 e
      refine ⟨u, ?_, k2⟩
      rw [List.lookup_cons]
      have : (f == p.1) = false := by simpa using z
      rw [this]; exact k1
theorem tab_putF {c : Gm} {w : Wd} {f : Str} {d : D} {v : V} (q : Rep c w d v) : ∀ {fs : List (Str × D)} {ys : List (Str × V)}, TabR c w fs ys → TabR c w (putFA f d fs) (putF f v ys)
  | [], ys, h => by
    have : ys = [] := by have := h.1; simpa using this
    subst this
    exact tab_cons q tab_nil
  | p :: fs, ys, h => by
    obtain ⟨u, r, rfl, h1, h2⟩ := tab_inv h
    unfold putFA putF
    by_cases z : p.1 = f
    · rw [if_pos z, if_pos z]; exact tab_cons q h2
    · rw [if_neg z, if_neg z]; exact tab_cons h1 (tab_putF q h2)
/-- a class whose attributes may be asked for, set -/
structure ClsA (K : PySem.W.Frag) (mg : Str → Option Value) (C : Str) (fs : List Str) : Prop where
  ex : ∃ Ca, mg C = some (.ref Ca) ∧ Cls K Ca ∧ ∀ f ∈ fs, NoAttr K Ca f
def fldM (Cs : List Str) (f : Str) (m : M D) : M D := bd m fun d S => match d with
  | .box r => match S.g.cs r with
    | some (.ins C fs) => if C ∈ Cs then (match lookA f fs with | some x => .ok x S | none => .stuck) else .stuck
    | _ => .stuck
  | _ => .stuck
def setFldM (Cs : List Str) (f : Str) (mv m : M D) : M Fl := bd mv fun y => bd m fun d S => match d with
  | .box r => match S.g.cs r with
    | some (.ins C fs) => if C ∈ Cs ∧ fs.length < 1000 then .ok .nx (S.up (S.g.put r (.ins C (putFA f y fs)))) else .stuck
    | _ => .stuck
  | _ => .stuck
section
variable {X : Cx} {E : XK} {pos pos' : Pos} {o e : Expr} {m mv : M D} {f : Str} {Cs fl : List Str}
theorem gl_eq {C : Str} {a b : Addr} (h : (cg X).gl C = some a) (h' : X.mg C = some (.ref b)) : a = b := by
  have z := gl_of h'
  rw [z] at h; cases h; rfl
theorem me_fld (hC : ∀ C ∈ Cs, ClsA X.K X.mg C fl) (hf : f ∈ fl) (he : PE X e (TM (cg X) E m)) (hb : attributeBase e f X.env (eval e X.env) = eval e X.env := by rfl) : PE X (.Attribute e f pos) (TM (cg X) E (fldM Cs f m)) := by
  refine PE.weak (pe_fld he hb) fun σ H Q ⟨w, S, s, po⟩ => ?_
  unfold fldM at po
  refine ⟨w, S, s, Po.two po fun d w1 S1 H1 st1 s1 po1 v r => ?_⟩
  cases d with
  | box q =>
    simp only at po1
    cases eg : S1.g.cs q with
    | none => simp only [eg] at po1; exact po1.elim
    | some x =>
      cases x with
      | ins C fs =>
        simp only [eg] at po1
        by_cases z : C ∈ Cs
        · rw [if_pos z] at po1
          cases el : lookA f fs with
          | none => simp only [el] at po1; exact po1.elim
          | some y =>
            simp only [el] at po1
            simp only [Rep] at r
            obtain ⟨h1, rfl⟩ := r
            obtain ⟨_, ⟨Ca, dx, ys, k0, k1, k2, k3⟩, _⟩ := s1.cell q _ eg
            obtain ⟨Cb, c0, c1, c2⟩ := (hC C z).ex
            obtain rfl := gl_eq k0 c0
            obtain ⟨u, u1, u2⟩ := tab_look ⟨k2, k3⟩ el
            exact ⟨_, Ca, dx, ys, u, rfl, k1, c1, c2 f hf, u1, po1 w1 H1 (.refl ..) s1 u u2⟩
        · rw [if_neg z] at po1; exact po1.elim
      | lst _ => simp only [eg] at po1; exact po1.elim
      | dK _ => simp only [eg] at po1; exact po1.elim
      | dT _ => simp only [eg] at po1; exact po1.elim
  | _ => exact po1.elim
theorem ms_fld (hC : ∀ C ∈ Cs, ClsA X.K X.mg C fl) (hf : f ∈ fl) (ho : PE X o (TM (cg X) E m)) (hv : PE X e (TM (cg X) E mv)) (hs : swapsWith e (some (.Attribute o f pos')) pos.line X.env = pure false := by rfl) :
    PS X (.Assign [.Attribute o f pos'] e pos) (TSm (cg X) E (setFldM Cs f mv m)) := by
  refine PS.weak (ps_fld ho hv hs) fun Dn σ H ⟨w, S, s, po⟩ => ?_
  unfold setFldM at po
  refine ⟨w, S, s, PoS.two po fun y w1 S1 H1 st1 s1 po1 vy ry => ?_⟩
  refine ⟨w1, S1, s1, PoS.two po1 fun d w2 S2 H2 st2 s2 po2 v r => ?_⟩
  have ry := Rep.mono st2.le _ _ ry
  cases d with
  | box q =>
    simp only at po2
    cases eg : S2.g.cs q with
    | none => simp only [eg] at po2; exact po2.elim
    | some x =>
      cases x with
      | ins C fs =>
        simp only [eg] at po2
        by_cases z : C ∈ Cs ∧ fs.length < 1000
        · rw [if_pos z] at po2
          simp only [Rep] at r
          obtain ⟨h1, rfl⟩ := r
          obtain ⟨_, ⟨Ca, dx, ys, k0, k1, k2, k3⟩, _⟩ := s2.cell q _ eg
          obtain ⟨Cb, c0, c1, c2⟩ := (hC C z.1).ex
          obtain rfl := gl_eq k0 c0
          have T : TabR (cg X) w2 fs ys := ⟨k2, k3⟩
          have T' := tab_putF (f := f) ry T
          refine ⟨_, Ca, dx, ys, rfl, k1, c1, c2 f hf, by rw [← tab_len T]; exact z.2, ?_⟩
          exact po2 w2 σ _ (Step.put s2 eg) (s2.put eg ⟨Ca, dx, _, k0, upd_same, T'.1, T'.2⟩)
        · rw [if_neg z] at po2; exact po2.elim
      | lst _ => simp only [eg] at po2; exact po2.elim
      | dK _ => simp only [eg] at po2; exact po2.elim
      | dT _ => simp only [eg] at po2; exact po2.elim
  | _ => exact po2.elim
end

/-! ### new instances -/
def newM (C : Str) (f : F) (ds : List D) : M D := fun S => match f (.box S.g.nx :: ds) ⟨[], S.g.add (.ins C [])⟩ with
  | .ok .non S' => .ok (.box S.g.nx) ⟨S.sl, S'.g⟩
  | .ok _ _ => .stuck
  | .exc B fs S' => .exc B fs ⟨S.sl, S'.g⟩
  | .stuck => .stuck
def makeM (C : Str) (f : F) (ms : M (List D)) : M D := bd ms fun ds => newM C f ds
/-- a class that may be made by its name -/
structure MkM (P : Program) (w : World) (K : PySem.W.Frag) (mg : Str → Option Value) (base : Heap) (k : Nat) (x qual : Str) (st : Stmt) (ps : List Str) (f : F) : Prop where
  flat : Flat f
  ex : ∃ (C fa : Addr) (fd : FuncData), Mk K C fa ∧ FnOk P w K mg base (L2.CX P w) k fa fd ps (spM (gmOf K mg) ps.length f) ∧ mg x = some (.ref C) ∧ Binds K fd ps [] ∧ Fun K "__init__" qual st fa fd
theorem step_drop2 {w w' : Wd} {S : Sg} {σ : FSt} {H H' : Hp} {g g' : G} (st : Step w ⟨S.sl, g⟩ σ H w' ⟨S.sl, g'⟩ σ H') : Step w ⟨S.sl, g⟩ σ H w' ⟨S.sl, g'⟩ σ H' := st
theorem new_of {c : Gm} {E : XK} {C : Str} {Ca : Addr} {n : Nat} {f : F} {ds : List D} {vs : List V} {w : Wd} {S : Sg} {σ : FSt} {H : Hp} {Q : VK} (hf : Flat f) (hC : c.gl C = some Ca) (hn : ds.length + 1 = n) (s : Sim c w S σ H) (r : Reps c w ds vs) (po : Po c E (newM C f ds S) w S σ H (KD c Q)) :
    ∀ x dx, H x = none → H dx = none → dx ≠ x → spM c n f (.ref x :: vs) (upd (upd H dx (.own x)) x (.ins Ca dx [])) (fun v H2 => v = .non ∧ Q (.ref x) H2) E := by
  intro x dx hx hdx hne
  have hx1 : upd H dx (.own x) x = none := by rw [upd_ne hne.symm]; exact hx
  have s1 := s.laid (.own x) hdx
  have s2 := s1.laid (.ins Ca dx []) hx1
  have stA : Step w S σ H w S σ (upd (upd H dx (.own x)) x (.ins Ca dx [])) := (Step.laid w S σ (.own x) hdx).trans (Step.laid w S σ (.ins Ca dx []) hx1)
  have hcell : CellR c w (upd (upd H dx (.own x)) x (.ins Ca dx [])) x (.ins C []) := ⟨Ca, dx, [], hC, upd_same, rfl, .nil⟩
  have hfx := s.nofz hx
  have hmu : ¬ Mu w S σ x := fun m => by
    obtain ⟨_, o, e⟩ := s.mu m
    rw [hx] at e; cases e
  have s3 := s2.box hcell hfx hmu
  have st3 : Step w S σ H (w.bx x) (S.up (S.g.add (.ins C []))) σ (upd (upd H dx (.own x)) x (.ins Ca dx [])) := Step.box s2 stA hx
  have rx : Rep c (w.bx x) (.box S.g.nx) (.ref x) := by
    simp only [Rep]
    refine ⟨?_, ?_⟩
    · show S.g.nx < w.n + 1
      rw [s.n]; exact Nat.lt_succ_self _
    · rw [← s.n, bx_new]
  refine ⟨by rw [List.length_cons, ← r.length]; exact hn, w.bx x, S.g.add (.ins C []), .box S.g.nx :: ds, s3.drop, .cons rx (Reps.mono .bx _ _ r), ?_⟩
  unfold newM at po
  have fl := hf (.box S.g.nx :: ds) (S.g.add (.ins C []))
  cases e : f (.box S.g.nx :: ds) ⟨[], S.g.add (.ins C [])⟩ with
  | ok d S2 =>
    rw [e] at po fl
    obtain ⟨sl2, g2⟩ := S2
    obtain rfl : sl2 = [] := fl
    intro w2 H2 st2 s2' v rv
    cases d with
    | non =>
      simp only [Rep] at rv
      refine ⟨rv, ?_⟩
      have b1 := Step.back (S := S.up (S.g.add (.ins C []))) s3 st2
      have b2 := Sim.back (S := S.up (S.g.add (.ins C []))) s3 st2 s2'
      exact po w2 H2 (st3.trans b1) b2 _ (Rep.mono st2.le _ _ rx)
    | _ => exact po.elim
  | exc B fs S2 =>
    rw [e] at po fl
    obtain ⟨sl2, g2⟩ := S2
    obtain rfl : sl2 = [] := fl
    intro w2 σ2 H2 Cb dx2 ys st2 s2' hCb hd hy hr
    have st2 : Step (w.bx x) ⟨[], S.g.add (.ins C [])⟩ [] _ w2 ⟨[], g2⟩ [] H2 := st2.trans (Step.drop (σ := σ2))
    have s2'' : Sim c w2 ⟨[], g2⟩ [] H2 := s2'.drop
    have b1 := Step.back (S := S.up (S.g.add (.ins C []))) s3 st2
    have b2 := Sim.back (S := S.up (S.g.add (.ins C []))) s3 st2 s2''
    exact po w2 σ H2 Cb dx2 ys (st3.trans b1) b2 hCb hd hy hr
  | stuck => rw [e] at po; exact po
section
variable {X : Cx} {E : XK} {k j n : Nat} {x qual m : Str} {st : Stmt} {ps : List Str} {f : F} {p pos apos : Pos} {e o : Expr} {es : List Expr} {ms : M (List D)} {mo : M D}
theorem po_args {c : Gm} {w : Wd} {S : Sg} {σ : FSt} {H : Hp} {ms : M (List D)} {kf : List D → M D} {K : D → Wd → Sg → Hp → Prop} {K' : List D → Wd → Sg → Hp → Prop} (hn : ArgN n ms) (po : Po c E (bd ms kf S) w S σ H K)
    (q : ∀ ds w1 S1 H1, ds.length = n → Step w S σ H w1 S1 σ H1 → Sim c w1 S1 σ H1 → Po c E (kf ds S1) w1 S1 σ H1 K → K' ds w1 S1 H1) : Po c E (ms S) w S σ H K' := by
  have po : Po c E ((ms S).bind kf) w S σ H K := po
  cases em : ms S with
  | exc C fs S' => rw [em] at po; exact po
  | stuck => rw [em] at po; exact po
  | ok ds S1 =>
    rw [em] at po
    exact fun w1 H1 st1 s1 => q ds w1 S1 H1 (hn _ _ _ em) st1 s1 (Po.rebase st1 po)
theorem me_make (c : MkM X.prog X.w X.K X.mg X.base k x qual st ps f) (hr : Room j X.A) (hk : k + 1 ≤ j) (hx : Passes (L2.CX X.prog X.w) X E) (hg : Gl X x) (ha : PA X (e :: es) (TL (cg X) E ms)) (hn : ArgN n ms) (hl : ps.length = n + 1 := by rfl)
    (hdb : (x == ("__debug__" : Str)) = false := by decide) (he : starEach (e :: es) X.env = (false, eval e X.env) :: starEach es X.env := by rfl) (hpl : (backTo pos (starEach es X.env)).any (·.1) = false := by rfl) :
    PE X (.Call (.Name x p) (e :: es) [] pos) (TM (cg X) E (makeM x f ms)) := by
  obtain ⟨C, fa, fd, M, F, hm, b, _⟩ := c.ex
  refine PE.weak (pe_make M F (hr.mono hk) hg hm b .nil hx ha hdb he hpl) fun σ H Q ⟨w, S, s, po⟩ => ?_
  refine ⟨w, S, s, po_args hn po fun ds w1 S1 H1 hd st1 s1 po1 vs r => ?_⟩
  simp only [List.append_nil]
  exact new_of c.flat (gl_of hm) (by rw [hd, hl]) s1 r po1
/-- methods: a def of a class, called on an instance -/
structure MtM (P : Program) (w : World) (K : PySem.W.Frag) (mg : Str → Option Value) (base : Heap) (k : Nat) (C m qual : Str) (st : Stmt) (ps : List Str) (f : F) : Prop where
  flat : Flat f
  ex : ∃ (Ca fa : Addr) (fd : FuncData), mg C = some (.ref Ca) ∧ Cls K Ca ∧ Meth K Ca m fa ∧ FnOk P w K mg base (L2.CX P w) k fa fd ps (spM (gmOf K mg) ps.length f) ∧ Binds K fd ps [] ∧ Fun K m qual st fa fd
/-- the receiver is an instance of C without an attribute m of its own -/
def recM (C m : Str) : D → M D := fun d S => match d with
  | .box r => match S.g.cs r with
    | some (.ins B fs) => if B = C ∧ lookA m fs = none then .ok d S else .stuck
    | _ => .stuck
  | _ => .stuck
def methM (C m : Str) (f : F) (mo : M D) (ms : M (List D)) : M D := bd (bd mo (recM C m)) fun d => bd ms fun ds => inF (f (d :: ds))
theorem tab_look_none {c : Gm} {w : Wd} {f : Str} : ∀ {fs : List (Str × D)} {ys : List (Str × V)}, TabR c w fs ys → lookA f fs = none → ys.lookup f = none
  | [], ys, h, e => by
    have : ys = [] := by have := h.1; simpa using this
    subst this; rfl
  | p :: fs, ys, h, e => by
    obtain ⟨v, r, rfl, h1, h2⟩ := tab_inv h
    unfold lookA at e
    by_cases z : f = p.1
    · rw [if_pos z] at e; cases e
    · rw [if_neg z] at e
      rw [List.lookup_cons]
      have : (f == p.1) = false := by simpa using z
      rw [this]; exact tab_look_none h2 e
theorem inF_of {c : Gm} {n : Nat} {f : F} {ds : List D} {vs : List V} {w : Wd} {S : Sg} {σ : FSt} {H : Hp} {Q : VK} (hf : Flat f) (hn : ds.length = n) (s : Sim c w S σ H) (r : Reps c w ds vs) (po : Po c E (inF (f ds) S) w S σ H (KD c Q)) : spM c n f vs H Q E := by
  refine ⟨by rw [← r.length]; exact hn, w, S.g, ds, s.drop, r, ?_⟩
  unfold inF at po
  have fl := hf ds S.g
  cases e : f ds ⟨[], S.g⟩ with
  | ok d S2 =>
    rw [e] at po fl
    obtain ⟨sl2, g2⟩ := S2
    obtain rfl : sl2 = [] := fl
    intro w2 H2 st2 s2 v rv
    exact po w2 H2 (Step.back s st2) (s.back st2 s2) v rv
  | exc C fs S2 =>
    rw [e] at po fl
    obtain ⟨sl2, g2⟩ := S2
    obtain rfl : sl2 = [] := fl
    intro w2 σ2 H2 Ca dx ys st2 s2 hC hd hy hr
    have st2 : Step w ⟨[], S.g⟩ [] H w2 ⟨[], g2⟩ [] H2 := st2.trans (Step.drop (σ := σ2))
    exact po w2 σ H2 Ca dx ys (Step.back s st2) (s.back st2 s2.drop) hC hd hy hr
  | stuck => rw [e] at po; exact po
theorem rec_of {c : Gm} {K : PySem.W.Frag} {C : Str} {Ca : Addr} {w : Wd} {S : Sg} {σ : FSt} {H : Hp} {K2 : D → Wd → Sg → Hp → Prop} {d : D} {v : V} (hC : c.gl C = some Ca) (s : Sim c w S σ H) (r : Rep c w d v) (po : Po c E (recM C m d S) w S σ H K2) :
    K2 d w S H ∧ ∃ a dx fs, v = .ref a ∧ H a = some (.ins Ca dx fs) ∧ fs.lookup m = none := by
  unfold recM at po
  cases d with
  | box q =>
    simp only at po
    cases eg : S.g.cs q with
    | none => simp only [eg] at po; exact po.elim
    | some x =>
      cases x with
      | ins B fs =>
        simp only [eg] at po
        by_cases z : B = C ∧ lookA m fs = none
        · rw [if_pos z] at po
          obtain ⟨rfl, z⟩ := z
          refine ⟨po w H (.refl ..) s, ?_⟩
          simp only [Rep] at r
          obtain ⟨h1, rfl⟩ := r
          obtain ⟨_, ⟨Cb, dx, ys, k0, k1, k2, k3⟩, _⟩ := s.cell q _ eg
          rw [hC] at k0; cases k0
          exact ⟨_, dx, ys, rfl, k1, tab_look_none ⟨k2, k3⟩ z⟩
        · rw [if_neg z] at po; exact po.elim
      | lst _ => simp only [eg] at po; exact po.elim
      | dK _ => simp only [eg] at po; exact po.elim
      | dT _ => simp only [eg] at po; exact po.elim
  | _ => exact po.elim
theorem me_meth {C : Str} {pl : Sem Bool} (c : MtM X.prog X.w X.K X.mg X.base k C m qual st ps f) (hr : Room j X.A) (hk : k ≤ j) (hx : Passes (L2.CX X.prog X.w) X E) (ho : PE X o (TM (cg X) E mo)) (ha : PA X (e :: es) (TL (cg X) E ms)) (hn : ArgN n ms) (hl : ps.length = n + 1 := by rfl)
    (hst : starEach (e :: es) X.env = (false, eval e X.env) :: starEach es X.env := by rfl) (hpl : (backTo pos (starEach es X.env)).any (·.1) = false := by rfl)
    (ht : eval (.Call (.Attribute o m apos) (e :: es) [] pos) X.env = (do
      let ov ← eval o X.env
      standAt apos.atName
      let (f, first) ← holding [ov] (getMethod ov m pl)
      callWith pos f first (backTo pos (starEach (e :: es) X.env)) (backToKw pos (keywordEach [] X.env))) := by rfl) :
    PE X (.Call (.Attribute o m apos) (e :: es) [] pos) (TM (cg X) E (methM C m f mo ms)) := by
  obtain ⟨Ca, fa, fd, hm, cl, me, F, b, _⟩ := c.ex
  refine PE.weak (pe_meth (pl := pl) ho cl me F (hr.mono hk) b .nil hx ha hst hpl ht) fun σ H Q ⟨w, S, s, po⟩ => ?_
  have po : Po (cg X) E ((bd mo (recM C m) S).bind fun d => bd ms fun ds => inF (f (d :: ds))) w S σ H (KD (cg X) Q) := po
  have po2 := Po.bind po
  refine ⟨w, S, s, Po.two po2 fun d w1 S1 H1 st1 s1 po1 v r => ?_⟩
  obtain ⟨q, a, dx, fs, rfl, h1, h2⟩ := rec_of (K := X.K) (gl_of hm) s1 r po1
  refine ⟨a, dx, fs, rfl, h1, h2, w1, S1, s1, po_args hn q fun ds w2 S2 H2 hd st2 s2 po3 vs rs => ?_⟩
  simp only [List.append_nil]
  exact inF_of c.flat (by rw [List.length_cons, hd, hl]) s2 (.cons (Rep.mono st2.le _ _ r) rs) po3
theorem me_meth0 {C : Str} {pl : Sem Bool} (c : MtM X.prog X.w X.K X.mg X.base k C m qual st ps f) (hr : Room j X.A) (hk : k ≤ j) (hx : Passes (L2.CX X.prog X.w) X E) (ho : PE X o (TM (cg X) E mo)) (hl : ps.length = 1 := by rfl)
    (ht : eval (.Call (.Attribute o m apos) [] [] pos) X.env = (do
      let ov ← eval o X.env
      standAt apos.atName
      let (f, first) ← holding [ov] (getMethod ov m pl)
      callWith pos f first (backTo pos (starEach [] X.env)) (backToKw pos (keywordEach [] X.env))) := by rfl) :
    PE X (.Call (.Attribute o m apos) [] [] pos) (TM (cg X) E (methM C m f mo nilM)) := by
  obtain ⟨Ca, fa, fd, hm, cl, me, F, b, _⟩ := c.ex
  refine PE.weak (pe_meth0 (pl := pl) ho cl me F (hr.mono hk) b .nil hx ht) fun σ H Q ⟨w, S, s, po⟩ => ?_
  have po : Po (cg X) E ((bd mo (recM C m) S).bind fun d => bd nilM fun ds => inF (f (d :: ds))) w S σ H (KD (cg X) Q) := po
  have po2 := Po.bind po
  refine ⟨w, S, s, Po.two po2 fun d w1 S1 H1 st1 s1 po1 v r => ?_⟩
  obtain ⟨q, a, dx, fs, rfl, h1, h2⟩ := rec_of (K := X.K) (gl_of hm) s1 r po1
  refine ⟨a, dx, fs, rfl, h1, h2, ?_⟩
  exact inF_of c.flat (by rw [List.length_singleton, hl]) s1 (.cons r .nil) q
end
end Mm
end

section
/-! MmK: isinstance; own == and !=. -/
namespace Mm
open PySem L2
open PyProof.Rows (envOfC)

/-! ### isinstance -/
/-- a value's class: a built-in one, or an own one by its name -/
inductive Ty where
  | bt (n : String) | own (C : Str)
deriving DecidableEq
def known : List String := ["NoneType", "bool", "int", "str", "list", "tuple", "dict", "function"]
def isT (a b : String) : Bool := a == b || (a == "bool" && b == "int")
theorem kitB_known : ∀ a ∈ known, ∀ b ∈ known, kitB a b = some (isT a b) := by decide +kernel
structure Kfn (K : PySem.W.Frag) (mg : Str → Option Value) (x : Str) : Prop where
  ex : ∃ a, mg x = some (.ref a) ∧ PySem.W.typeIn K (.ref a) = some (.type "function")
structure Kcl (K : PySem.W.Frag) (mg : Str → Option Value) (C : Str) : Prop where
  ex : ∃ Ca, mg C = some (.ref Ca) ∧ Cls K Ca ∧ PySem.W.findIn K (.ref Ca) "__class__" = some (some (.builtin "object.__class__")) ∧ PySem.W.specialIn K (.builtin "object.__class__") "__get__" = some (some (.builtin "getset_descriptor.__get__")) ∧
    PySem.W.takesIn K (.builtin "object.__class__") = some true ∧ PySem.W.mroIn K Ca (.type "object") = some true ∧ (∀ b ∈ known, PySem.W.kitOne K (.ref Ca) (.type b) = some false) ∧ ∀ a ∈ known, PySem.W.kitOne K (.type a) (.ref Ca) = some false
structure KitOk (K : PySem.W.Frag) (mg : Str → Option Value) (fns cls : List Str) : Prop where
  f : ∀ x ∈ fns, Kfn K mg x
  c : ∀ C ∈ cls, Kcl K mg C
def tyD (fns cls : List Str) (S : Sg) : D → Option Ty
  | .non => some (.bt "NoneType")
  | .bl _ => some (.bt "bool")
  | .int _ => some (.bt "int")
  | .str _ => some (.bt "str")
  | .lst _ => some (.bt "list")
  | .scr _ => some (.bt "list")
  | .tup _ => some (.bt "tuple")
  | .ty _ => none
  | .glo x => if x ∈ fns then some (.bt "function") else none
  | .box r => match S.g.cs r with
    | some (.lst _) => some (.bt "list")
    | some (.dK _) => some (.bt "dict")
    | some (.dT _) => some (.bt "dict")
    | some (.ins C _) => if C ∈ cls then some (.own C) else none
    | none => none
def clD (cls : List Str) : D → Option Ty
  | .ty n => if n ∈ known then some (.bt n) else none
  | .glo x => if x ∈ cls then some (.own x) else none
  | _ => none
def clDs (cls : List Str) : List D → Option (List Ty)
  | [] => some []
  | d :: ds => match clD cls d, clDs cls ds with
    | some t, some ts => some (t :: ts)
    | _, _ => none
def kitT : Ty → Ty → Option Bool
  | .bt a, .bt b => some (isT a b)
  | .bt _, .own _ => some false
  | .own _, .bt _ => some false
  | .own C, .own B => if C = B then some true else none
def kitTs (t : Ty) : List Ty → Option Bool
  | [] => some false
  | c :: cs => match kitT t c with
    | some true => some true
    | some false => kitTs t cs
    | none => none
def isiF (fns cls : List Str) : List D → M D
  | [d, c] => fun S => match tyD fns cls S d with
    | none => .stuck
    | some t => match c with
      | .tup cs => match clDs cls cs with
        | none => .stuck
        | some ts => match kitTs t ts with | some b => .ok (.bl b) S | none => .stuck
      | c => match clD cls c with
        | none => .stuck
        | some u => match kitT t u with | some b => .ok (.bl b) S | none => .stuck
  | _ => nope
/-- a value's class, as the kit's rules want it -/
inductive TyY (K : PySem.W.Frag) (H : Hp) : V → Value → Prop where
  | base {x : V} {t : Value} (h : TyX K H x t) : TyY K H x t
  | fn {a : Addr} (h : PySem.W.typeIn K (.ref a) = some (.type "function")) : TyY K H (.ref a) (.type "function")
theorem kit_ofY {X : Cx} {pins : List (Addr × Obj)} {σ : FSt} {H : Hp} {s : Shared} {x : V} {u t : Value} (I : Inv X pins σ H s) (rx : RelV x u) (ty : TyY X.K H x t) : ∃ P : Heap → Prop, PySem.W.KitX X.K u t P ∧ P s.heap ∧ u ≠ .builtin "__main__.__loader__#opaque" := by
  cases ty with
  | base h => exact kit_of I rx h
  | @fn a h =>
    cases (show u = Value.ref a from rx)
    obtain ⟨o, ho, hc⟩ := Option.map_eq_some_iff.mp h
    exact ⟨_, kitx_fn, ⟨o, I.kIn _ _ ho, hc⟩, fun z => nomatch z⟩
def rIsiY (K : PySem.W.Frag) : List V → Hp → VK → Prop := fun xs H Q => (∃ (x c : V) (t u : Value) (b : Bool), xs = [x, c] ∧ ClsV c u ∧ TyY K H x t ∧ PySem.W.kitOne K t u = some b ∧ Q (.bl b) H) ∨
  ∃ (x : V) (tp : Addr) (cs : List V) (t : Value) (us : List Value) (b : Bool), xs = [x, .ref tp] ∧ H tp = some (.tup cs) ∧ Paired ClsV cs us ∧ TyY K H x t ∧ PySem.W.kitAny K t us = some b ∧ Q (.bl b) H
theorem call_isiY {X : Cx} : CallR X (.builtin "isinstance") (rIsiY X.K) := by
  intro pins s σ H xs us Q I r h
  rcases h with ⟨x, c, t, u, b, rfl, k, ty, e, q⟩ | ⟨x, tp, cs, t, ws, b, rfl, hT, k, ty, e, q⟩
  · obtain ⟨u1, u2, rfl, r1, r2⟩ := vals2 r
    have e2 := k.eq r2
    subst e2
    obtain ⟨P, Z, p, hx⟩ := kit_ofY I r1 ty
    exact PySem.W.kia_one Z I.kIn p e hx fun tk => ⟨.bl b, H, I.tok tk, rfl, q⟩
  · obtain ⟨u1, u2, rfl, r1, r2⟩ := vals2 r
    cases (show u2 = Value.ref tp from r2)
    obtain ⟨P, Z, p, hx⟩ := kit_ofY I r1 ty
    obtain ⟨_, its, rv, o, h1, h2, n, h3⟩ := (show ObjOk X.prog X.w H s.heap tp (.tup cs) from I.hok tp _ hT)
    have e3 := ClsV.all k rv
    subst e3
    obtain ⟨oc, od, dt, sl⟩ := o
    simp only at h2 h3
    subst h2 h3
    exact PySem.W.kia_tup Z I.kIn p h1 e hx fun tk => ⟨.bl b, H, I.tok tk, rfl, q⟩
/-- the class as a value of the kit -/
def tyV2 (mg : Str → Option Value) : Ty → Value
  | .bt n => .type n
  | .own C => (mg C).getD .none
def TyGood (cls : List Str) : Ty → Prop
  | .bt n => n ∈ known
  | .own C => C ∈ cls
section
variable {K : PySem.W.Frag} {mg : Str → Option Value} {fns cls : List Str} {w : Wd} {S : Sg} {σ : FSt} {H : Hp}
theorem tyD_of (k : KitOk K mg fns cls) (s : Sim (gmOf K mg) w S σ H) {d : D} {v : V} {t : Ty} (r : Rep (gmOf K mg) w d v) (e : tyD fns cls S d = some t) : TyY K H v (tyV2 mg t) := by
  cases d with
  | non => cases e; simp only [Rep] at r; subst r; exact .base (.base .non)
  | bl b => cases e; rw [rep_bl r]; exact .base (.base (.bl b))
  | int i => cases e; rw [rep_int r]; exact .base (.base (.int i))
  | str x => cases e; simp only [Rep] at r; subst r; exact .base (.base (.str x))
  | lst xs =>
    cases e
    simp only [Rep] at r
    obtain ⟨a, vs, rfl, h1, h2⟩ := r
    exact .base (.base (.lst (s.fz _ _ h1)))
  | tup xs =>
    cases e
    simp only [Rep] at r
    obtain ⟨a, vs, rfl, h1, h2⟩ := r
    exact .base (.base (.tup (s.fz _ _ h1)))
  | scr ns =>
    cases e
    simp only [Rep] at r
    obtain ⟨a, rfl, h1⟩ := r
    rcases h1 with (h1 | ⟨o, h1⟩) | h1
    · exact .base (.base (.lst (s.fz _ _ h1)))
    · exact .base (.base (.frz (s.fz _ _ h1)))
    · obtain ⟨o, ho, hc, _⟩ : ∃ o, K.lookup a = some o ∧ o.cls = .type "list" ∧ True := by
        first
          | exact (let ⟨o, h, z⟩ := h1; ⟨o, h, z.1, trivial⟩)
          | (obtain ⟨its, h2, h3⟩ := h1; exact ⟨_, h3, rfl, trivial⟩)
          | (obtain ⟨its, n, h2, h3⟩ := h1; exact ⟨_, h3, rfl, trivial⟩)
          | (obtain ⟨its, n, dd, h2, h3⟩ := h1; exact ⟨_, h3, rfl, trivial⟩)
          | (obtain ⟨o, n, its, h2, h3, h4, h5⟩ := h1; exact ⟨_, h2, h3, trivial⟩)
      exact .base (.kList ho hc)
  | ty n => cases e
  | glo x =>
    simp only [tyD] at e
    by_cases z : x ∈ fns
    · rw [if_pos z] at e; cases e
      simp only [Rep] at r
      obtain ⟨a, h1, rfl⟩ := r
      obtain ⟨a', h2, h3⟩ := (k.f x z).ex
      have h4 : (gmOf K mg).gl x = some a' := by show (match mg x with | some (.ref a) => some a | _ => none) = some a'; rw [h2]
      rw [h4] at h1; cases h1
      exact .fn h3
    · rw [if_neg z] at e; cases e
  | box q =>
    simp only [tyD] at e
    simp only [Rep] at r
    obtain ⟨h1, rfl⟩ := r
    cases eg : S.g.cs q with
    | none => rw [eg] at e; cases e
    | some x =>
      rw [eg] at e
      obtain ⟨_, c2, _⟩ := s.cell q _ eg
      cases x with
      | lst xs => cases e; obtain ⟨vs, k1, k2⟩ := c2; exact .base (.base (.lst k1))
      | dK xs => cases e; obtain ⟨vs, k1, k2⟩ := c2; exact .base (.base (.dK k1))
      | dT xs => cases e; obtain ⟨vs, k1, k2⟩ := c2; exact .base (.base (.dT k1))
      | ins C fs =>
        simp only at e
        by_cases hg : C ∈ cls
        case neg => rw [if_neg hg] at e; cases e
        rw [if_pos hg] at e
        cases e
        obtain ⟨Ca, dx, ys, k0, k1, k2, k3⟩ := c2
        obtain ⟨Cb, m1, m2, m3, m4, m5, m6, _⟩ := (k.c C hg).ex
        have h4 : (gmOf K mg).gl C = some Cb := by show (match mg C with | some (.ref a) => some a | _ => none) = some Cb; rw [m1]
        obtain rfl : Cb = Ca := by rw [h4] at k0; exact Option.some.inj k0
        have e2 : tyV2 mg (.own C) = .ref Cb := by show (mg C).getD .none = _; rw [m1]; rfl
        rw [e2]
        exact .base (.base (.ins k1 m2 m3 m4 m5 m6))
theorem clD_of (k : KitOk K mg fns cls) {d : D} {v : V} {t : Ty} (r : Rep (gmOf K mg) w d v) (e : clD cls d = some t) : ClsV v (tyV2 mg t) ∧ TyGood cls t := by
  cases d with
  | ty n =>
    simp only [clD] at e
    by_cases z : n ∈ known
    · rw [if_pos z] at e; cases e
      simp only [Rep] at r; subst r
      exact ⟨.ty n, z⟩
    · rw [if_neg z] at e; cases e
  | glo x =>
    simp only [clD] at e
    by_cases z : x ∈ cls
    · rw [if_pos z] at e; cases e
      simp only [Rep] at r
      obtain ⟨a, h1, rfl⟩ := r
      obtain ⟨Cb, m1, _⟩ := (k.c x z).ex
      have h4 : (gmOf K mg).gl x = some Cb := by show (match mg x with | some (.ref a) => some a | _ => none) = some Cb; rw [m1]
      obtain rfl : Cb = a := by rw [h4] at h1; exact Option.some.inj h1
      have e2 : tyV2 mg (.own x) = .ref Cb := by show (mg x).getD .none = _; rw [m1]; rfl
      rw [e2]
      exact ⟨.own Cb, z⟩
    · rw [if_neg z] at e; cases e
  | _ => cases e
theorem clDs_of (k : KitOk K mg fns cls) : ∀ {ds : List D} {vs : List V} {ts : List Ty}, Reps (gmOf K mg) w ds vs → clDs cls ds = some ts → Paired ClsV vs (ts.map (tyV2 mg)) ∧ ∀ t ∈ ts, TyGood cls t
  | [], vs, ts, r, e => by cases e; rw [reps_nil.mp r]; exact ⟨.nil, fun _ h => by cases h⟩
  | d :: ds, vs, ts, r, e => by
    obtain ⟨v, t, rfl, r1, r2⟩ := reps_cons.mp r
    unfold clDs at e
    cases e1 : clD cls d with
    | none => rw [e1] at e; simp at e
    | some t =>
      cases e2 : clDs cls ds with
      | none => rw [e1, e2] at e; simp at e
      | some ts' =>
        rw [e1, e2] at e; cases e
        obtain ⟨a, b⟩ := clD_of k r1 e1
        obtain ⟨a2, b2⟩ := clDs_of k r2 e2
        exact ⟨.cons a a2, fun z hz => (List.mem_cons.mp hz).elim (fun h => h ▸ b) (b2 z)⟩
theorem kitT_of (k : KitOk K mg fns cls) {t u : Ty} {b : Bool} (ht : TyGood cls t) (hu : TyGood cls u) (e : kitT t u = some b) : PySem.W.kitOne K (tyV2 mg t) (tyV2 mg u) = some b := by
  cases t with
  | bt a =>
    cases u with
    | bt c => cases e; exact kit_ty (kitB_known a ht c hu)
    | own C =>
      cases e
      obtain ⟨Cb, m1, m2, m3, m4, m5, m6, m7, m8⟩ := (k.c C hu).ex
      have e2 : tyV2 mg (.own C) = .ref Cb := by show (mg C).getD .none = _; rw [m1]; rfl
      rw [e2]; exact m8 a ht
  | own C =>
    obtain ⟨Cb, m1, m2, m3, m4, m5, m6, m7, m8⟩ := (k.c C ht).ex
    have e2 : tyV2 mg (.own C) = .ref Cb := by show (mg C).getD .none = _; rw [m1]; rfl
    cases u with
    | bt c => cases e; rw [e2]; exact m7 c hu
    | own B =>
      simp only [kitT] at e
      by_cases z : C = B
      · rw [if_pos z] at e; cases e
        subst z
        rw [e2]
        unfold PySem.W.kitOne
        rw [if_pos (by simp)]
      · rw [if_neg z] at e; cases e
theorem kitTs_of (k : KitOk K mg fns cls) {t : Ty} (ht : TyGood cls t) : ∀ {us : List Ty} {b : Bool}, (∀ u ∈ us, TyGood cls u) → kitTs t us = some b → PySem.W.kitAny K (tyV2 mg t) (us.map (tyV2 mg)) = some b
  | [], b, _, e => by cases e; rfl
  | u :: us, b, hg, e => by
    unfold kitTs at e
    rw [List.map_cons]
    cases e1 : kitT t u with
    | none => rw [e1] at e; cases e
    | some c =>
      rw [e1] at e
      have h1 := kitT_of k ht (hg u List.mem_cons_self) e1
      cases c with
      | true => cases e; exact kitAny_cons h1 (fun z => by cases z) fun _ => rfl
      | false => exact kitAny_cons h1 (fun _ => kitTs_of k ht (fun x hx => hg x (List.mem_cons_of_mem _ hx)) e) fun z => by cases z
end
theorem good_bt {cls : List Str} {n : String} (h : n ∈ known) : TyGood cls (.bt n) := h
theorem tyD_good {fns cls : List Str} {S : Sg} {d : D} {t : Ty} (e : tyD fns cls S d = some t) : TyGood cls t := by
  cases d with
  | ty n => cases e
  | glo x =>
    simp only [tyD] at e
    by_cases z : x ∈ fns
    · rw [if_pos z] at e; cases e
      show "function" ∈ known
      decide
    · rw [if_neg z] at e; cases e
  | box q =>
    simp only [tyD] at e
    cases eg : S.g.cs q with
    | none => rw [eg] at e; cases e
    | some x =>
      rw [eg] at e
      cases x with
      | ins C fs =>
        simp only at e
        by_cases z : C ∈ cls
        · rw [if_pos z] at e; cases e; exact z
        · rw [if_neg z] at e; cases e
      | _ => cases e; exact good_bt (by decide)
  | _ => cases e; exact good_bt (by decide)
section
variable {X : Cx} {E : XK} {p pos : Pos} {a b : Expr} {ma mb : M D} {fns cls : List Str}
def isiM (fns cls : List Str) (ma mb : M D) : M D := bd (consM ma (consM mb nilM)) (isiF fns cls)
theorem me_isi (k : KitOk X.K X.mg fns cls) (hg : Gl X "isinstance") (hm : X.mg "isinstance" = none) (ha : PE X a (TM (cg X) E ma)) (hb : PE X b (TM (cg X) E mb))
    (h1' : starEach [a, b] X.env = (false, eval a X.env) :: starEach [b] X.env := by rfl) (h2' : starEach [b] X.env = [(false, eval b X.env)] := by rfl) : PE X (.Call (.Name "isinstance" p) [a, b] [] pos) (TM (cg X) E (isiM fns cls ma mb)) := by
  refine PE.weak (pe_callB call_isiY hg hm rfl (ml_cons ha (ml_cons hb ml_nil h2') h1') (by decide) (by decide) h1' (by rw [h2'] <;> rfl)) fun σ H Q ⟨w, S, s, po⟩ => ?_
  unfold isiM at po
  refine ⟨w, S, s, Po.two po fun ds w1 S1 H1 st1 s1 po1 vs r => ?_⟩
  cases ds with
  | nil => exact po1.elim
  | cons d t =>
    cases t with
    | nil => exact po1.elim
    | cons c t =>
      cases t with
      | cons _ _ => exact po1.elim
      | nil =>
        obtain ⟨v, t, rfl, r1, r2⟩ := reps_cons.mp r
        obtain ⟨u, t, rfl, r3, r4⟩ := reps_cons.mp r2
        cases reps_nil.mp r4
        cases et : tyD fns cls S1 d with
        | none => simp only [isiF, et] at po1; exact po1.elim
        | some ty =>
          have h1 := tyD_of k s1 r1 et
          have hgd := tyD_good et
          have other : ∀ uu, clD cls c = some uu → (∀ bb, kitT ty uu = some bb → Q (.bl bb) H1) → (∃ bb, kitT ty uu = some bb) → rIsiY X.K [v, u] H1 Q := fun uu e1 q ⟨bb, e2⟩ => by
            obtain ⟨k1, k2⟩ := clD_of k r3 e1
            exact .inl ⟨v, u, _, _, bb, rfl, k1, h1, kitT_of k hgd k2 e2, q bb e2⟩
          have rest : (∀ cs, c ≠ .tup cs) → Po (cg X) E ((match clD cls c with
              | none => .stuck
              | some u => match kitT ty u with | some b => .ok (.bl b) S1 | none => .stuck : R D)) w1 S1 σ H1 (KD (cg X) Q) → rIsiY X.K [v, u] H1 Q := fun _ po2 => by
            cases e1 : clD cls c with
            | none => simp only [e1] at po2; exact po2.elim
            | some uu =>
              simp only [e1] at po2
              cases e2 : kitT ty uu with
              | none => simp only [e2] at po2; exact po2.elim
              | some bb =>
                simp only [e2] at po2
                exact other uu e1 (fun b2 e3 => by rw [e2] at e3; cases e3; exact po2 w1 H1 (.refl ..) s1 _ of_bl) ⟨bb, e2⟩
          cases c with
          | tup cs =>
            simp only [isiF, et] at po1
            cases e1 : clDs cls cs with
            | none => simp only [e1] at po1; exact po1.elim
            | some ts =>
              simp only [e1] at po1
              cases e2 : kitTs ty ts with
              | none => simp only [e2] at po1; exact po1.elim
              | some bb =>
                simp only [e2] at po1
                simp only [Rep] at r3
                obtain ⟨tp, vs, rfl, k1, k2⟩ := r3
                obtain ⟨k3, k4⟩ := clDs_of k k2 e1
                exact .inr ⟨v, tp, vs, _, _, bb, rfl, s1.fz _ _ k1, k3, h1, kitTs_of k hgd k4 e2, po1 w1 H1 (.refl ..) s1 _ of_bl⟩
          | _ =>
            simp only [isiF, et] at po1
            exact rest (fun _ z => nomatch z) po1
end
end Mm
end

section
/-! MmL: own == and != of two values, the left one an instance with an own __eq__. -/
namespace Mm
open PySem L2
open PyProof.Rows (envOfC Fr)
section
open PySem.W
variable {prog : Program} {w : World} {M : Model} {A : Around} {E : Value → Shared → Prop} {s : Shared} {K : Frag} {x C f : Addr} {ox : Obj} {od : Option Obj} {name : Str} {b tb : Value}
theorem ifBoundB {id : String} {args : List Value} {Q : Option Value → Shared → Prop} (X : K.In s.heap) (I : InstAt s.heap x ox C od) (hs : findIn K (.ref C) name = some (some (.builtin id))) (hb : ∀ self, bindSpecial (.builtin id) self = pure (.builtin id, [self]))
    (h : wpAny M A (call (.builtin id) (.ref x :: args)) (fun v => Q (some v)) E s) : wpAny M A (callSpecialIfBound? (.ref x) name args) Q E s := by
  simp only [callSpecialIfBound?, bindSpecialIfBound?]
  refine wpAny_holding (wpAny_bind (wpAny_bind (wpAny_bind (I.type.here ((looks_findIn X hs).here ?_)))))
  refine wpAny_bind (wpAny_askSetting (wpAny_ite ?_))
  have fin : wpAny M A (call (.builtin id) ([.ref x] ++ args) >>= fun v => pure (some v)) Q E s := wpAny_bind (wpAny_mono h (fun v s' h' => wpAny_pure h') fun _ _ h' => h')
  split
  · exact wpAny_bind ((Looks.of_pure (hb _)).here (wpAny_pure (by exact fin)))
  · exact wpAny_tryCatch (wpAny_bind ((Looks.of_pure (hb _)).here (wpAny_pure (by exact fin))))
theorem ne_call {Q : Value → Shared → Prop} (hu : A.in1.units < cLine) (X : K.In s.heap) (I : InstAt s.heap x ox C od) (hm : mroIn K C (.type "object") = some true) (hs : findIn K (.ref C) "__eq__" = some (some (.ref f))) (hf : isFn K (.ref f) = true)
    (h : wpAny (model prog w) A.in1 (call (.ref f) [.ref x, b]) (fun v s' => ∃ c, v = .bool c ∧ Q (.bool (!c)) s') E s) : wpAny (model prog w) A (call (.builtin "object.__ne__") [.ref x, b]) Q E s := by
  refine wpAny_call (codeAny_call_builtin PySem.F.cmp_object.ne.plain PySem.F.cmpEntry_ne (check_slot (i := "object.__ne__") (owner := "object") (n := "__ne__") PySem.F.cmpKind_ne PySem.F.cmpSplit_ne (I.type.andThen (looks_mroIn X hm)) (PySem.F.cmpArgs_ne _ _) ?_))
  unfold Builtin.«object.__ne__»
  refine wpAny_bind (wpAny_pure ?_)
  refine wpAny_bind (m := cRoomFor _ _) (wpAny_cRoomFor hu ?_)
  refine wpAny_bind (m := callSpecialIfBound? (.ref x) (Str.ofString "__eq__") _) (ifBound_K X I hs hf (wpAny_mono h (fun r s' hq => ?_) fun _ _ y => y))
  obtain ⟨c, rfl, hq⟩ := hq
  refine wpAny_bind (m := truthy (.bool c)) (wpAny_truthy_bool ?_)
  exact wpAny_pure hq
theorem ne_K {h₀ : Heap} {L : Addr} {m : Str → Option Value} {Q : Value → Shared → Prop} (hu : A.units < cLine) (hu1 : A.in1.units < cLine) (F : Fr h₀ L s.heap m) (X₀ : K.In h₀) (I : InstAt s.heap x ox C od) (hb : Looks (model prog w) s.heap (typeOf b) tb) (hn : notFirst K C tb = true)
    (hne : findIn K (.ref C) "__ne__" = some (some (.builtin "object.__ne__"))) (hm : mroIn K C (.type "object") = some true) (hs : findIn K (.ref C) "__eq__" = some (some (.ref f))) (hf : isFn K (.ref f) = true)
    (h : wpAny (model prog w) A.in1 (call (.ref f) [.ref x, b]) (fun v s' => ∃ c, v = .bool c ∧ Q (.bool (!c)) s') E s) : wpAny (model prog w) A (richCompare .NotEq (.ref x) b) Q E s := by
  have X := X₀.keeps F.keep
  have one : wpAny (model prog w) A (tryCompare (.ref x) (cmpInfo .NotEq).2.1 b) (fun r s' => ∃ v, r = some v ∧ Q v s') E s := by
    unfold tryCompare
    refine wpAny_bind (ifBoundB (name := "__ne__") X I hne PySem.F.cmp_object.ne.bind (ne_call hu1 X I hm hs hf (wpAny_mono h (fun v s' hv => ?_) fun _ _ e => e)))
    obtain ⟨c, rfl, hq⟩ := hv
    exact ⟨c, rfl, wpAny_pure ⟨_, rfl, hq⟩⟩
  unfold richCompare
  simp only [oneThing_ref]
  refine wpAny_holding (wpAny_bind (wpAny_cRoomFor hu ?_))
  refine wpAny_bind (I.type.here (wpAny_bind (hb.here ?_)))
  split
  · rename_i q
    have e : subIn K tb (.ref C) = some false := by
      rcases Bool.or_eq_true_iff.mp hn with e | e
      · rw [beq_iff_eq.mp e] at q; simp at q
      · exact beq_iff_eq.mp e
    refine wpAny_bind ((looks_subIn X e).here ?_)
    simp only [Bool.false_eq_true, if_false]
    refine wpAny_bind (wpAny_mono one (fun r s' z => ?_) fun _ _ e => e)
    obtain ⟨v, rfl, hq⟩ := z
    exact wpAny_pure hq
  · refine wpAny_bind (wpAny_pure ?_)
    simp only [Bool.false_eq_true, if_false]
    refine wpAny_bind (wpAny_mono one (fun r s' z => ?_) fun _ _ e => e)
    obtain ⟨v, rfl, hq⟩ := z
    exact wpAny_pure hq
end

section
variable {X : Cx} {CX : CXT} {n : Nat} {C f : Addr} {fd : FuncData} {ps : List Str} {sp : Sp} {E : XK}
theorem run_fnA {A : Around} {pins : List (Addr × Obj)} {σ : FSt} {H : Hp} {s : Shared} {Q : VK} {us : List Value} {vs : List V} (F : FnOk X.prog X.w X.K X.mg X.base CX n f fd ps sp) (hr : Room n A) (hfr : A.frames = X.A.frames) (hb : Binds X.K fd ps []) (hx : Passes CX X E)
    (I : Inv X pins σ H s) (r : Vals vs us) (h : sp vs H Q E) : wpAny (model X.prog X.w) A (call (.ref f) us) (EP X pins σ Q) X.xe s := by
  have e0 : Env0 X.prog X.w X.K X.mg X.base A X.stack s H := by
    have e := I.env0
    exact ⟨by rw [hfr]; exact e.frames, e.mod, e.bs, e.bsz, e.funs, e.frf, e.hok, e.bare⟩
  have hl : (us ++ []).length = ps.length := by rw [List.append_nil, ← r.length]; exact F.len _ _ _ _ h
  have hb2 := hb s us I.kIn hl
  rw [List.append_nil] at hb2
  refine wpAny_call (codeAny_mono (F.run A X.stack s H ⟨us, []⟩ us vs Q E hr e0 hb2 r h) fun r s' hq => ?_)
  cases r with
  | error e => exact hx pins σ H s e s' I hq
  | ok fl =>
    cases fl with
    | ret u => exact I.after hq
    | next => exact False.elim hq
    | brk => exact False.elim hq
    | cont => exact False.elim hq
def rOwnEq (K : PySem.W.Frag) (C : Addr) (sp : Sp) (E : XK) : R2 := fun x y H Q => ∃ a dx fs t, x = .ref a ∧ H a = some (.ins C dx fs) ∧ TyY K H y t ∧ PySem.W.notFirst K C t = true ∧ sp [x, y] H Q E
def rOwnNe (K : PySem.W.Frag) (C : Addr) (sp : Sp) (E : XK) : R2 := fun x y H Q => ∃ a dx fs t, x = .ref a ∧ H a = some (.ins C dx fs) ∧ TyY K H y t ∧ PySem.W.notFirst K C t = true ∧ sp [x, y] H (fun v H' => ∃ b, v = .bl b ∧ Q (.bl (!b)) H') E
theorem op_ownEq (F : FnOk X.prog X.w X.K X.mg X.base CX n f fd ps sp) (hr : Room n X.A) (hb : Binds X.K fd ps []) (hx : Passes CX X E) (hs : PySem.W.findIn X.K (.ref C) "__eq__" = some (some (.ref f))) (hf : PySem.W.isFn X.K (.ref f) = true) : OpR X (compareOp .Eq) (rOwnEq X.K C sp E) := by
  intro pins s σ H x y v u Q I rx ry h
  obtain ⟨a, dx, fs, t, rfl, ha, ty, hn, q⟩ := h
  cases rx
  obtain ⟨mA, J, _⟩ := ins_get I.hok ha
  obtain ⟨od, J, _⟩ := J.look
  obtain ⟨P, Z, p, _⟩ := kit_ofY I ry ty
  obtain ⟨m, hF⟩ := I.fr
  show wpAny (model X.prog X.w) X.A (richCompare .Eq (.ref a) u) (EP X pins σ Q) X.xe s
  refine PySem.W.cmp_K (op := .Eq) hr.units0 hF I.ok.mod.kin J (Z.ty _ _ I.kIn p) hn hs hf ?_
  refine wpAny_mono (run_fnA (A := X.A) F hr rfl hb hx I (us := [.ref a, u]) (vs := [.ref a, y]) (Paired.cons (show RelV (V.ref a) (Value.ref a) from rfl) (.cons ry .nil)) q) (fun w s' z => ?_) fun _ _ x => x
  obtain ⟨z', H', I', rz, qz⟩ := z
  exact SlX.cmpback rz ⟨z', H', I', rz, qz⟩
theorem op_ownNe (F : FnOk X.prog X.w X.K X.mg X.base CX n f fd ps sp) (hr : Room (n + 1) X.A) (hb : Binds X.K fd ps []) (hx : Passes CX X E) (hs : PySem.W.findIn X.K (.ref C) "__eq__" = some (some (.ref f))) (hf : PySem.W.isFn X.K (.ref f) = true)
    (hne : PySem.W.findIn X.K (.ref C) "__ne__" = some (some (.builtin "object.__ne__"))) (hm : PySem.W.mroIn X.K C (.type "object") = some true) : OpR X (compareOp .NotEq) (rOwnNe X.K C sp E) := by
  intro pins s σ H x y v u Q I rx ry h
  obtain ⟨a, dx, fs, t, rfl, ha, ty, hn, q⟩ := h
  cases rx
  obtain ⟨mA, J, _⟩ := ins_get I.hok ha
  obtain ⟨od, J, _⟩ := J.look
  obtain ⟨P, Z, p, _⟩ := kit_ofY I ry ty
  obtain ⟨m, hF⟩ := I.fr
  show wpAny (model X.prog X.w) X.A (richCompare .NotEq (.ref a) u) (EP X pins σ Q) X.xe s
  refine ne_K hr.units0 hr.in1.units0 hF I.ok.mod.kin J (Z.ty _ _ I.kIn p) hn hne hm hs hf ?_
  refine wpAny_mono (run_fnA (A := X.A.in1) F hr.in1 rfl hb hx I (us := [.ref a, u]) (vs := [.ref a, y]) (Paired.cons (show RelV (V.ref a) (Value.ref a) from rfl) (.cons ry .nil)) q) (fun w s' z => ?_) fun _ _ x => x
  obtain ⟨z', H', I', rz, b, rfl, qz⟩ := z
  cases (show w = Value.bool b from rz)
  exact ⟨b, rfl, .bl (!b), H', I', rfl, qz⟩
end
/-- a class with an own __eq__, and no own __ne__ -/
structure EqM (P : Program) (w : World) (K : PySem.W.Frag) (mg : Str → Option Value) (base : Heap) (k : Nat) (C : Str) (ps : List Str) (f : F) (cls : List Str) : Prop where
  flat : Flat f
  ex : ∃ (Ca fa : Addr) (fd : FuncData), mg C = some (.ref Ca) ∧ FnOk P w K mg base (L2.CX P w) k fa fd ps (spM (gmOf K mg) ps.length f) ∧ Binds K fd ps [] ∧ PySem.W.findIn K (.ref Ca) "__eq__" = some (some (.ref fa)) ∧ PySem.W.isFn K (.ref fa) = true ∧
    PySem.W.findIn K (.ref Ca) "__ne__" = some (some (.builtin "object.__ne__")) ∧ PySem.W.mroIn K Ca (.type "object") = some true ∧ (∀ t ∈ known, PySem.W.notFirst K Ca (.type t) = true) ∧ ∀ B ∈ cls, ∀ Cb, mg B = some (.ref Cb) → PySem.W.notFirst K Ca (.ref Cb) = true
/-- x == y: x an instance of C, y of a known type -/
def eqOwn (fns cls : List Str) (C : Str) (f : F) (x y : D) : M D := bd (recM C "__eq__" x) fun x => fun S => match tyD fns cls S y with | some _ => inF (f [x, y]) S | none => .stuck
def eqOwnM (fns cls : List Str) (C : Str) (f : F) (ma mb : M D) : M D := bd ma fun x => bd mb fun y => eqOwn fns cls C f x y
def neOwnM (fns cls : List Str) (C : Str) (f : F) (ma mb : M D) : M D := notV (eqOwnM fns cls C f ma mb)
section
variable {X : Cx} {E : XK} {k j : Nat} {C : Str} {ps : List Str} {f : F} {cls fns : List Str} {a b : Expr} {ma mb : M D} {pos : Pos}
theorem own_first {Ca : Addr} {t : Ty} (hk : KitOk X.K X.mg fns cls) (ht : TyGood cls t) (h1 : ∀ t ∈ known, PySem.W.notFirst X.K Ca (.type t) = true) (h2 : ∀ B ∈ cls, ∀ Cb, X.mg B = some (.ref Cb) → PySem.W.notFirst X.K Ca (.ref Cb) = true) : PySem.W.notFirst X.K Ca (tyV2 X.mg t) = true := by
  cases t with
  | bt n => exact h1 n ht
  | own B =>
    obtain ⟨Cb, m1, _⟩ := (hk.c B ht).ex
    have e2 : tyV2 X.mg (.own B) = .ref Cb := by show (X.mg B).getD .none = _; rw [m1]; rfl
    rw [e2]; exact h2 B ht Cb m1
theorem own_of {Ca : Addr} {n : Nat} {w : Wd} {S : Sg} {σ : FSt} {H : Hp} {d1 d2 : D} {v1 v2 : V} {K : D → Wd → Sg → Hp → Prop} {Q : VK} (hf : Flat f) (hn : 2 = n) (hk : KitOk X.K X.mg fns cls) (hC : X.mg C = some (.ref Ca)) (h1 : ∀ t ∈ known, PySem.W.notFirst X.K Ca (.type t) = true) (h2 : ∀ B ∈ cls, ∀ Cb, X.mg B = some (.ref Cb) → PySem.W.notFirst X.K Ca (.ref Cb) = true)
    (s : Sim (cg X) w S σ H) (r1 : Rep (cg X) w d1 v1) (r2 : Rep (cg X) w d2 v2) (po : Po (cg X) E (eqOwn fns cls C f d1 d2 S) w S σ H K) (hK : ∀ d w' S' H' v, Sim (cg X) w' S' σ H' → K d w' S' H' → Rep (cg X) w' d v → Q v H') :
    ∃ a dx fs t, v1 = .ref a ∧ H a = some (.ins Ca dx fs) ∧ TyY X.K H v2 t ∧ PySem.W.notFirst X.K Ca t = true ∧ spM (cg X) n f [v1, v2] H Q E := by
  unfold eqOwn at po
  have po : Po (cg X) E ((recM C "__eq__" d1 S).bind fun x S => match tyD fns cls S d2 with | some _ => inF (f [x, d2]) S | none => .stuck) w S σ H K := po
  obtain ⟨q, a, dx, fs, e1, e2, e3⟩ := rec_of (K := X.K) (gl_of hC) s r1 po.bind
  have q : Po (cg X) E (match tyD fns cls S d2 with | some _ => inF (f [d1, d2]) S | none => .stuck) w S σ H K := q
  cases et : tyD fns cls S d2 with
  | none => rw [et] at q; exact q.elim
  | some t =>
    rw [et] at q
    refine ⟨a, dx, fs, _, e1, e2, tyD_of hk s r2 et, own_first hk (tyD_good et) h1 h2, ?_⟩
    exact inF_of (n := n) (ds := [d1, d2]) hf hn s (.cons r1 (.cons r2 .nil)) (q.imp fun d w' S' H' _ s' kk v rv => hK d w' S' H' v s' kk rv)
theorem opM_ownEq {Ca : Addr} {n : Nat} (hf : Flat f) (hn : 2 = n) (hk : KitOk X.K X.mg fns cls) (hC : X.mg C = some (.ref Ca)) (h1 : ∀ t ∈ known, PySem.W.notFirst X.K Ca (.type t) = true) (h2 : ∀ B ∈ cls, ∀ Cb, X.mg B = some (.ref Cb) → PySem.W.notFirst X.K Ca (.ref Cb) = true) :
    OpM (cg X) E (rOwnEq X.K Ca (spM (cg X) n f) E) (eqOwn fns cls C f) := fun w S σ H d1 d2 v1 v2 Q s r1 r2 po =>
  own_of hf hn hk hC h1 h2 s r1 r2 po fun d w' S' H' v s' kk rv => kk v rv
theorem me_ownEq (c : EqM X.prog X.w X.K X.mg X.base k C ps f cls) (hk : KitOk X.K X.mg fns cls) (hr : Room j X.A) (hj : k ≤ j) (hx : Passes (L2.CX X.prog X.w) X E) (ha : PE X a (TM (cg X) E ma)) (hb : PE X b (TM (cg X) E mb)) (hl : 2 = ps.length := by rfl) :
    PE X (.Compare a [.Eq] [b] pos) (TM (cg X) E (eqOwnM fns cls C f ma mb)) := by
  obtain ⟨Ca, fa, fd, hC, F, bb, hs, hf, hne, hm, h1, h2⟩ := c.ex
  exact me_cmp (op_ownEq F (hr.mono hj) bb hx hs hf) (opM_ownEq c.flat hl hk hC h1 h2) ha hb (nomark _)
theorem me_ownNe (c : EqM X.prog X.w X.K X.mg X.base k C ps f cls) (hk : KitOk X.K X.mg fns cls) (hr : Room j X.A) (hj : k + 1 ≤ j) (hx : Passes (L2.CX X.prog X.w) X E) (ha : PE X a (TM (cg X) E ma)) (hb : PE X b (TM (cg X) E mb)) (hl : 2 = ps.length := by rfl) :
    PE X (.Compare a [.NotEq] [b] pos) (TM (cg X) E (neOwnM fns cls C f ma mb)) := by
  obtain ⟨Ca, fa, fd, hC, F, bb, hs, hf, hne, hm, h1, h2⟩ := c.ex
  refine PE.weak (pe_cmpR (op_ownNe F (hr.mono hj) bb hx hs hf hne hm) ha hb (nomark _)) fun σ H Q ⟨w, S, s, po⟩ => ?_
  unfold neOwnM notV eqOwnM at po
  have po := Po.bind po
  refine ⟨w, S, s, Po.two (k := fun x => bd mb fun y => eqOwn fns cls C f x y) po fun d1 w1 S1 H1 st1 s1 po1 v1 r1 => ?_⟩
  refine ⟨w1, S1, s1, Po.two (k := fun y => eqOwn fns cls C f d1 y) po1 fun d2 w2 S2 H2 st2 s2 po2 v2 r2 => ?_⟩
  refine own_of c.flat hl hk hC h1 h2 s2 (Rep.mono st2.le _ _ r1) r2 po2 fun d w3 S3 H3 v s3 kk rv => ?_
  cases d with
  | bl b2 => exact ⟨b2, rep_bl rv, kk w3 H3 (.refl ..) s3 _ of_bl⟩
  | _ => exact kk.elim
end
end Mm
end

section
/-! MmO: what is walked: enumerate, zip. -/
namespace Mm
open PySem L2
open PyProof.Rows (envOfC Fr)
/-! ### enumerate(tuple) -/
section
open PySem.Sem (wp)
open AutoSeq1 (wpAny_loadPart')
theorem meets_enumerate_newT (l : Addr) (items : Array Value) (n : Nat) (dct : Option Addr) (sl : Array (Option Value)) :
    Meets (Builtin.«enumerate.__new__» ⟨[.type "enumerate", .ref l], []⟩) (fun _ R s => s.heap.get? l = some { cls := .type "tuple", dict := dct, data := .seq items n, slots := sl } ∧
      R (.ok (.ret (.ref (s.heap.push { cls := .type "tuple_iterator", data := .fields #[.ref l, .int 0 0] }).objs.size)))
        { s with heap := (s.heap.push { cls := .type "tuple_iterator", data := .fields #[.ref l, .int 0 0] }).push { cls := .type "enumerate", data := .fields #[.none, .bool false, .ref s.heap.objs.size, rawInt 0, .none, .none] } }) :=
  .of_wp fun prog w A R s h => by
    obtain ⟨hp, g, d, tk, os⟩ := s; obtain ⟨hl, h⟩ := h
    have hsub := sub_enumerate
    have hL : Heap.IsTuple (Shared.heap ⟨hp, g, d, tk, os⟩) l items := ⟨_, hl, rfl, n, rfl⟩
    wp_walk using wpAny_loadPart' hl
    refine wpAny_stack_any fun st => wpAny_pure ?_
    split
    · rename_i c _ _ _ _ _
      cases (c == Value.type "enumerate")
      · wp_walk using wpAny_loadPart' hl, wpAny_pyIter_tuple hL
        exact ⟨_, rfl, h⟩
      · wp_walk using wpAny_loadPart' hl, wpAny_pyIter_tuple hL
        exact ⟨_, rfl, h⟩
    · wp_walk using wpAny_loadPart' hl, wpAny_pyIter_tuple hL
      exact ⟨_, rfl, h⟩
theorem call_enumerate_tuple {prog : Program} {w : World} {A : Around} {E : Value → Shared → Prop} {s : Shared} {l : Addr} {items : Array Value} {Q : Value → Shared → Prop} (hL : s.heap.IsTuple l items)
    (h : ∀ h', IsEnum h' (s.heap.objs.size + 1) s.heap.objs.size 0 .none → h'.IsTupleIter s.heap.objs.size l 0 → h'.objs.size = s.heap.objs.size + 2 →
      (∀ b o, s.heap.get? b = some o → h'.get? b = some o) → Q (.ref (s.heap.objs.size + 1)) { s with heap := h' }) :
    wpAny (model prog w) A (call (.type "enumerate") [.ref l]) Q E s := by
  obtain ⟨⟨c, dct, dt, sl⟩, hl, hc, n, hd⟩ := hL
  replace hc : c = .type "tuple" := hc
  replace hd : dt = .seq items n := hd
  subst hc hd
  refine callType_new F.called_enumerate (by decide) (F.typeCall_enumerate_1 _) (F.newCall_enumerate_1 _) (fun obj => F.args_object_init_2 obj _) F.entry_enumerate_new
    (meets_enumerate_newT l items n dct sl) ⟨hl, ?_⟩
  have hz : (s.heap.push { cls := .type "tuple_iterator", data := .fields #[.ref l, .int 0 0] }).objs.size = s.heap.objs.size + 1 := Heap.size_push ..
  show _ ∧ _
  rw [hz]
  have he : IsEnum ((s.heap.push { cls := .type "tuple_iterator", data := .fields #[.ref l, .int 0 0] }).push
      { cls := .type "enumerate", data := .fields #[.none, .bool false, .ref s.heap.objs.size, rawInt 0, .none, .none] }) (s.heap.objs.size + 1) s.heap.objs.size 0 .none := by
    have := Heap.get?_push_size (s.heap.push { cls := .type "tuple_iterator", data := .fields #[.ref l, .int 0 0] })
      (o := { cls := .type "enumerate", data := .fields #[.none, .bool false, .ref s.heap.objs.size, rawInt 0, .none, .none] }) rfl
    rw [hz] at this; exact this
  refine ⟨⟨_, he, rfl⟩, h _ he ⟨_, Heap.get?_push_of_some _ (Heap.get?_push_size _ rfl), rfl, rfl⟩ (by rw [Heap.size_push, hz]) fun b o x => Heap.get?_push_of_some _ (Heap.get?_push_of_some _ x)⟩
end
def IteT (K : PySem.W.Frag) (a : Addr) : It :=
  ⟨fun i H => ∃ (xs : List V) (x : V), SqT K H a xs ∧ xs[i]? = some x, fun i H v H' => ∃ T x, v = .ref T ∧ H T = none ∧ H' = upd H T (.tup [.int (i : Nat), x]) ∧ ∀ xs, SqT K H a xs → xs[i]? = some x, fun i H => ∃ xs : List V, SqT K H a xs ∧ xs.length ≤ i⟩
section
open PySem.Spec PyProof.Rows
theorem turn_enumT {P : Program} {w : World} {K : PySem.W.Frag} {elts : List Expr} {kk : Nat} {tpos : Pos} (a e it : Addr) (hai : a ≠ it) (hea : e ≠ a) :
    Turn P w K (.Tuple elts kk tpos) (IteT K a) [e, it] e (fun i h => (∃ old, IsEnum h e it ((i : Nat) : Int) old) ∧ h.IsTupleIter it a i ∧ e ≠ it) where
  mem := by simp
  obj := fun i h st b hb => by
    obtain ⟨⟨old, he⟩, ⟨o, ho, hc, hd⟩, _⟩ := st
    have e' : b = e ∨ b = it := by simpa using hb
    rcases e' with z | z
    · rw [z]; exact ⟨_, he, fun v q => nomatch q⟩
    · rw [z]; exact ⟨o, ho, fun v q => by rw [hd] at q; cases q⟩
  keep := fun i h h' st k => let ⟨⟨old, he⟩, hi, hne⟩ := st; ⟨⟨old, k e (by simp) _ he⟩, hi.at fun o q => k it (by simp) o q, hne⟩
  item := by
    intro X hP hw hK hc i pins s σ H E I hf st hg
    subst hP hw hK
    obtain ⟨⟨old, he⟩, hit, hne⟩ := st
    obtain ⟨xs, x, hq, hx⟩ := hg
    obtain ⟨its, rv, p, hz⟩ := I.tuple hq
    obtain ⟨u, hu, ru⟩ := rv.get hx
    have hel : e < s.heap.objs.size := Heap.lt_size he
    have hil : it < s.heap.objs.size := by obtain ⟨_, q, _⟩ := hit; exact Heap.lt_size q
    have hlt : i < its.toArray.size := by
      have := (List.getElem?_eq_some_iff.mp hu).1
      simpa using this
    refine wpAny_pyNext_enum_itemD (Draws.tuple (A := X.A.in1) (I.ok.hd hc) it a hai its.toArray) he ⟨hit, p⟩ hlt hne (by simp; exact ⟨hne, hea⟩) fun v h' tk hv ho hst hT hsz hk => ?_
    have hv : its.toArray[i]? = some v := hv
    have huv : v = u := by
      rw [List.getElem?_toArray] at hv
      rw [hu] at hv; cases hv; rfl
    subst huv
    refine ⟨_, rfl, wpAny_letOwnedTupleGo_enum (s := { s with heap := h', toks := tk + 1 }) ho fun h'' he' sb => ?_⟩
    have hT2 : h''.get? s.heap.objs.size = some { cls := .type "tuple", data := .seq #[.int i tk, v] } := (sb.2 _ (Nat.ne_of_gt hel)).trans hT
    have new : ObjOk X.prog X.w (upd H s.heap.objs.size (.tup [.int (i : Nat), x])) h'' s.heap.objs.size (.tup [.int (i : Nat), x]) :=
      ⟨by show 2 ≤ sizeLine; decide, [.int i tk, v], .cons ⟨_, rfl⟩ (.cons ru .nil), ⟨_, hT2, rfl, _, rfl⟩⟩
    have I1 : Inv X pins σ (upd H s.heap.objs.size (.tup [.int (i : Nat), x])) { s with heap := h'', toks := tk + 1 } :=
      I.turnedNew (ch := [e, it]) (fun b ob hb q => (sb.2 b (fun z => hb (by simp [z]))).trans (hk b ob (fun z => hb (by simp [z])) (fun z => hb (by simp [z])) q)) hf (Nat.le_refl _) new
    refine ⟨.ref s.heap.objs.size, _, I1, rfl, ⟨_, x, rfl, I.hok.fresh (Nat.le_refl _), rfl, fun ys hy => by rw [I.tuple_inj hy hq]; exact hx⟩, ⟨⟨v, ?_⟩, hst.1.at fun o q => (sb.2 it (Ne.symm hne)).trans q, hne⟩, fun b hb => ?_⟩
    · have e1 : ((i + 1 : Nat) : Int) = (i : Int) + 1 := by omega
      rw [e1]; exact he'
    · have hb' : b < s.heap.objs.size := by
        have e' : b = e ∨ b = it := by simpa using hb
        rcases e' with z | z
        · rw [z]; exact hel
        · rw [z]; exact hil
      rw [upd_ne (Nat.ne_of_lt hb')]
      exact (hf b hb).1
  done := by
    intro X hP hw hK hc i pins s σ H E I hf st hg
    subst hP hw hK
    obtain ⟨⟨old, he⟩, hit, hne⟩ := st
    obtain ⟨xs, hq, hx⟩ := hg
    obtain ⟨its, rv, p, hz⟩ := I.tuple hq
    obtain ⟨f0, f1, f2, f3, f4, f5⟩ := hf it (by simp)
    have hl := rv.length
    have hT : s.TypeIs (.ref e) "enumerate" := ⟨_, he, rfl⟩
    unfold pyNext
    refine wpAny_bind (wpAny_attempt (wpAny_callSpecial?_slot (name := Str.ofString "__next__") hT F.slot_enumerate_next
      (wpAny_call_entry F.slot_enumerate_next hT F.entry_enumerate_next ?_ (F.args_enumerate_next_1 _))))
    show wpAny _ _ (field (.ref e) 2 >>= _) _ _ _
    refine wpAny_bind (wpAny_field he rfl (x := .ref it) rfl ?_)
    refine wpAny_bind (wpAny_nextOf_tuple_end (A := X.A.in1) (I.ok.hd hc) hit (show s.heap.IsTuple a its.toArray from p) (by simp; omega) fun h' x he' hx' => ?_)
    obtain ⟨o, ho, hcx⟩ := hx'
    refine wpAny_bind (wpAny_isInstance (T := "StopIteration") (b := true) ⟨o, ho, hcx⟩ isSubtype_stop ?_)
    exact wpAny_pure ⟨rfl, I.turned (t' := s.toks) (fun b o hb q => he' b o hb q) f0 f1 f3 f4 f5⟩
  self := fun A i s Q E st h => let ⟨⟨_, he⟩, _⟩ := st; wpAny_pyIter_enum he h
def iEnumA (K : PySem.W.Frag) (ta : TA) : TI := fun σ H R => ta σ H fun vs H1 => ∃ a xs, vs = [.ref a] ∧ ((SqL K H1 a xs ∧ R (Ite K a) H1) ∨ (SqT K H1 a xs ∧ R (IteT K a) H1))
theorem pi_enumA {X : Cx} {e : Expr} {ta : TA} {p pos tpos : Pos} {elts : List Expr} {kk : Nat} (hg : Gl X "enumerate") (hm : X.mg "enumerate" = none) (ha : PA X [e] ta) (hs : starEach [e] X.env = [(false, eval e X.env)] := by rfl) :
    PI X (.Tuple elts kk tpos) (.Call (.Name "enumerate" p) [e] [] pos) (iEnumA X.K ta) := by
  refine ⟨fun pins s σ H R I h => ?_⟩
  refine Call_ (ld_blt I hg hm boot_enumerate (PyProof.Rows.callWith_type1 (thn (ha.run pos pins s σ H _ I h) fun us s1 ⟨vs, H1, I1, r1, q1⟩ => ?_) hs rfl))
  obtain ⟨a, xs, ex, q⟩ := q1
  subst ex
  cases r1 with
  | cons r rr =>
    cases rr
    cases r
    have fresh2 : ∀ b, b ∈ [s1.heap.objs.size + 1, s1.heap.objs.size] → FpOk X pins H1 b := fun b hb => by
      have e' : b = s1.heap.objs.size + 1 ∨ b = s1.heap.objs.size := by simpa using hb
      have hle : s1.heap.objs.size ≤ b := by
        rcases e' with z | z
        · rw [z]; exact Nat.le_add_right _ _
        · rw [z]; exact Nat.le_refl _
      exact I1.fpOk hle (I1.hok.fresh hle)
    rcases q with ⟨hq, q⟩ | ⟨hq, q⟩
    · obtain ⟨its, rv, p', hz⟩ := I1.list hq
      refine call_enumerate_list p'.isList fun h' he hit hsz hk => wpAny_pyIter_enum he ?_
      have I2 : Inv X pins σ H1 { s1 with heap := h' } := I1.kept (t' := s1.toks) hk
      exact ⟨s1.heap.objs.size + 1, [s1.heap.objs.size + 1, s1.heap.objs.size], _, _, H1, rfl, I2, turn_enum a (s1.heap.objs.size + 1) s1.heap.objs.size, ⟨⟨.none, he⟩, hit, Nat.succ_ne_self _⟩, fresh2, q⟩
    · obtain ⟨its, rv, p', hz⟩ := I1.tuple hq
      obtain ⟨o, ho, _⟩ := id p'
      have hlt := Heap.lt_size ho
      refine call_enumerate_tuple (show s1.heap.IsTuple a its.toArray from p') fun h' he hit hsz hk => wpAny_pyIter_enum he ?_
      have I2 : Inv X pins σ H1 { s1 with heap := h' } := I1.kept (t' := s1.toks) hk
      exact ⟨s1.heap.objs.size + 1, [s1.heap.objs.size + 1, s1.heap.objs.size], _, _, H1, rfl, I2, turn_enumT a (s1.heap.objs.size + 1) s1.heap.objs.size (Nat.ne_of_lt hlt) (Nat.ne_of_gt (Nat.lt_succ_of_lt hlt)), ⟨⟨.none, he⟩, hit, Nat.succ_ne_self _⟩, fresh2, q⟩
end

/-! ### the sources -/
def enFrom (k : Nat) : List D → List D
  | [] => []
  | d :: ds => .tup [.int (k : Nat), d] :: enFrom (k + 1) ds
theorem enFrom_get : ∀ (ds : List D) (k i : Nat), (enFrom k ds)[i]? = (ds[i]?).map fun d => .tup [.int ((k + i : Nat) : Int), d]
  | [], k, i => by simp [enFrom]
  | d :: ds, k, 0 => by simp [enFrom]
  | d :: ds, k, i + 1 => by
    have h := enFrom_get ds (k + 1) i
    simp only [enFrom, List.getElem?_cons_succ]
    rw [h]
    have e : k + 1 + i = k + (i + 1) := by omega
    rw [e]
theorem enFrom_len : ∀ (ds : List D) (k : Nat), (enFrom k ds).length = ds.length
  | [], k => rfl
  | d :: ds, k => by simp [enFrom, enFrom_len ds (k + 1)]
section
variable {c : Gm} {w : Wd} {S : Sg} {σ : FSt} {H : Hp}
theorem new_tup (s : Sim c w S σ H) {ds : List D} {vs : List V} {T : Addr} (hT : H T = none) (r : Reps c w ds vs) : ∃ w', Step w S σ H w' S σ (upd H T (.tup vs)) ∧ Sim c w' S σ (upd H T (.tup vs)) ∧ Rep c w' (.tup ds) (.ref T) := by
  have hf := s.nofz hT
  have s1 := s.laid (.tup vs) hT
  have hm : ¬ Mu w S σ T := fun m => by
    obtain ⟨_, o, e⟩ := s.mu m
    rw [hT] at e; cases e
  refine ⟨w.add T (.tup vs), Step.freeze (Step.laid w S σ (.tup vs) hT) hT hf, s1.freeze upd_same hf hm, ?_⟩
  simp only [Rep]
  exact ⟨T, vs, rfl, upd_same, Reps.mono (.add hf) _ _ r⟩
theorem src_enum {w0 : Wd} {d : D} {x : Vw} {a : Addr} (h : Rep c w0 d (.ref a)) : SrcOk c w0 (if x.1 = true then Ite c.K a else IteT c.K a) ⟨enFrom 0 x.2, fun S' => vwD S' d = some x⟩ := fun i w S σ H l s hx => by
  obtain ⟨a', vs, e, k1, k2⟩ := vwR_of s (Rep.mono l _ _ h) hx
  cases e
  obtain ⟨b, ds⟩ := x
  have go : ∀ dd, (enFrom 0 ds)[i]? = some dd → ∃ d' v, ds[i]? = some d' ∧ dd = .tup [.int (i : Nat), d'] ∧ vs[i]? = some v ∧ Rep c w d' v := fun dd hd => by
    rw [enFrom_get] at hd
    obtain ⟨d', h1, h2⟩ := Option.map_eq_some_iff.mp hd
    obtain ⟨v, hv, rv⟩ := k2.get h1
    exact ⟨d', v, h1, by rw [← h2, Nat.zero_add], hv, rv⟩
  cases b with
  | true =>
    have hs : SqL c.K H a vs := .inl (.inl k1)
    refine ⟨fun dd hd => ?_, fun hi => ⟨vs, hs, by rw [← k2.length]; simpa [enFrom_len] using hi⟩⟩
    obtain ⟨d', v, h1, rfl, hv, rv⟩ := go dd hd
    refine ⟨⟨vs, v, hs, hv⟩, fun y H' hy => ?_⟩
    obtain ⟨T, x, rfl, hT, rfl, q⟩ := hy
    have z := q vs hs
    rw [hv] at z; cases z
    exact new_tup s hT (.cons of_int (.cons rv .nil))
  | false =>
    have hs : SqT c.K H a vs := .inl (.inl k1)
    refine ⟨fun dd hd => ?_, fun hi => ⟨vs, hs, by rw [← k2.length]; simpa [enFrom_len] using hi⟩⟩
    obtain ⟨d', v, h1, rfl, hv, rv⟩ := go dd hd
    refine ⟨⟨vs, v, hs, hv⟩, fun y H' hy => ?_⟩
    obtain ⟨T, x, rfl, hT, rfl, q⟩ := hy
    have z := q vs hs
    rw [hv] at z; cases z
    exact new_tup s hT (.cons of_int (.cons rv .nil))
def zipD : List D → List D → List D := List.zipWith fun x y => .tup [x, y]
theorem zip_get {i : Nat} {dd : D} {xs ys : List D} (h : (zipD xs ys)[i]? = some dd) : ∃ x y, xs[i]? = some x ∧ ys[i]? = some y ∧ dd = .tup [x, y] := by
  unfold zipD at h
  rw [List.getElem?_zipWith] at h
  cases e1 : xs[i]? with
  | none => rw [e1] at h; simp at h
  | some x =>
    cases e2 : ys[i]? with
    | none => rw [e1, e2] at h; simp at h
    | some y => rw [e1, e2] at h; simp at h; exact ⟨x, y, rfl, rfl, h.symm⟩
theorem src_zip {w0 : Wd} {d1 d2 : D} {b : Bool} {xs ys : List D} {a1 a2 : Addr} (h1 : Rep c w0 d1 (.ref a1)) (h2 : Rep c w0 d2 (.ref a2)) :
    SrcOk c w0 (if b = true then Itz c.K a1 a2 else RZ.ItzT c.K a1 a2) ⟨zipD xs ys, fun S' => vwD S' d1 = some (b, xs) ∧ vwD S' d2 = some (b, ys)⟩ := fun i w S σ H l s hx => by
  obtain ⟨a', vs, e, k1, k2⟩ := vwR_of s (Rep.mono l _ _ h1) hx.1
  cases e
  obtain ⟨a', us, e, m1, m2⟩ := vwR_of s (Rep.mono l _ _ h2) hx.2
  cases e
  have go : ∀ dd, (zipD xs ys)[i]? = some dd → ∃ x y v u, dd = .tup [x, y] ∧ vs[i]? = some v ∧ us[i]? = some u ∧ Rep c w x v ∧ Rep c w y u := fun dd hd => by
    obtain ⟨x, y, e1, e2, e3⟩ := zip_get hd
    obtain ⟨v, hv, rv⟩ := k2.get e1
    obtain ⟨u, hu, ru⟩ := m2.get e2
    exact ⟨x, y, v, u, e3, hv, hu, rv, ru⟩
  have stop : (zipD xs ys).length ≤ i → vs.length ≤ i ∨ us.length ≤ i := fun hi => by
    unfold zipD at hi
    rw [List.length_zipWith, k2.length, m2.length] at hi
    omega
  cases b with
  | true =>
    have hs : SqL c.K H a1 vs := .inl (.inl k1)
    have ht : SqL c.K H a2 us := .inl (.inl m1)
    refine ⟨fun dd hd => ?_, fun hi => ⟨vs, us, hs, ht, stop hi⟩⟩
    obtain ⟨x, y, v, u, rfl, hv, hu, rv, ru⟩ := go dd hd
    refine ⟨⟨vs, us, v, u, hs, ht, hv, hu⟩, fun z H' hz => ?_⟩
    obtain ⟨T, x', y', rfl, hT, rfl, q1, q2⟩ := hz
    have z1 := q1 vs hs
    have z2 := q2 us ht
    rw [hv] at z1; cases z1
    rw [hu] at z2; cases z2
    exact new_tup s hT (.cons rv (.cons ru .nil))
  | false =>
    have hs : SqT c.K H a1 vs := .inl (.inl k1)
    have ht : SqT c.K H a2 us := .inl (.inl m1)
    refine ⟨fun dd hd => ?_, fun hi => ⟨vs, us, hs, ht, stop hi⟩⟩
    obtain ⟨x, y, v, u, rfl, hv, hu, rv, ru⟩ := go dd hd
    refine ⟨⟨vs, us, v, u, hs, ht, hv, hu⟩, fun z H' hz => ?_⟩
    obtain ⟨T, x', y', rfl, hT, rfl, q1, q2⟩ := hz
    have z1 := q1 vs hs
    have z2 := q2 us ht
    rw [hv] at z1; cases z1
    rw [hu] at z2; cases z2
    exact new_tup s hT (.cons rv (.cons ru .nil))
end
def enumS (d : D) : M Src := fun S => match vwD S d with
  | some x => .ok ⟨enFrom 0 x.2, fun S' => vwD S' d = some x⟩ S
  | none => .stuck
def zipS (d1 d2 : D) : M Src := fun S => match vwD S d1, vwD S d2 with
  | some (b, xs), some (b', ys) => if b = b' then .ok ⟨zipD xs ys, fun S' => vwD S' d1 = some (b, xs) ∧ vwD S' d2 = some (b, ys)⟩ S else .stuck
  | _, _ => .stuck
section
variable {X : Cx} {E : XK} {pos p tpos : Pos} {e e2 : Expr} {elts : List Expr} {kk : Nat} {m m2 : M D}
theorem mi_enum (hg : Gl X "enumerate") (hm : X.mg "enumerate" = none) (he : PE X e (TM (cg X) E m)) (hs : starEach [e] X.env = [(false, eval e X.env)] := by rfl) : PI X (.Tuple elts kk tpos) (.Call (.Name "enumerate" p) [e] [] pos) (TIm (cg X) E (bd m enumS)) := by
  refine PI.weak (pi_enumA hg hm (pa_cons he pa_nil hs) hs) fun σ H R ⟨w, S, s, po⟩ => ⟨w, S, s, ?_⟩
  refine Po.two (k := enumS) po fun d w1 S1 H1 st1 s1 po1 v r => ?_
  unfold enumS at po1
  cases ev : vwD S1 d with
  | none => rw [ev] at po1; exact po1.elim
  | some x =>
    rw [ev] at po1
    obtain ⟨a, vs, rfl, k1, k2⟩ := vwR_of s1 r ev
    refine ⟨a, vs, rfl, ?_⟩
    have q := po1 w1 H1 (.refl ..) s1 _ (src_enum (x := x) r)
    obtain ⟨b, ds⟩ := x
    cases b with
    | true => exact .inl ⟨seqL_t k1, q⟩
    | false => exact .inr ⟨seqL_f k1, q⟩
theorem mi_zip (hg : Gl X "zip") (hm : X.mg "zip" = none) (he : PE X e (TM (cg X) E m)) (he2 : PE X e2 (TM (cg X) E m2)) (hs : starEach [e, e2] X.env = (false, eval e X.env) :: starEach [e2] X.env := by rfl) (hs2 : starEach [e2] X.env = [(false, eval e2 X.env)] := by rfl) :
    PI X (.Tuple elts kk tpos) (.Call (.Name "zip" p) [e, e2] [] pos) (TIm (cg X) E (bd m fun x => bd m2 fun y => zipS x y)) := by
  refine PI.weak (RZ.pi_zipA hg hm (pa_cons he (pa_cons he2 pa_nil hs2) hs) hs (by rw [hs2] <;> rfl)) fun σ H R ⟨w, S, s, po⟩ => ?_
  refine ⟨w, S, s, Po.two (k := fun x => bd m2 fun y => zipS x y) po fun d w1 S1 H1 st1 s1 po1 v r => ?_⟩
  refine ⟨w1, S1, s1, Po.two (k := fun y => zipS d y) po1 fun d2 w2 S2 H2 st2 s2 po2 v2 r2 => ?_⟩
  have r := Rep.mono st2.le _ _ r
  unfold zipS at po2
  cases ev : vwD S2 d with
  | none => simp only [ev] at po2; exact po2.elim
  | some x =>
    cases ev2 : vwD S2 d2 with
    | none => simp only [ev, ev2] at po2; exact po2.elim
    | some y =>
      obtain ⟨b, xs⟩ := x
      obtain ⟨b', ys⟩ := y
      simp only [ev, ev2] at po2
      by_cases z : b = b'
      · rw [if_pos z] at po2
        subst z
        obtain ⟨a, vs, rfl, k1, k2⟩ := vwR_of s2 r ev
        obtain ⟨a2, us, rfl, m1, m2⟩ := vwR_of s2 r2 ev2
        refine ⟨a, a2, vs, us, rfl, ?_⟩
        have q := po2 w2 H2 (.refl ..) s2 _ (src_zip r r2)
        cases b with
        | true => exact .inl ⟨seqL_t k1, seqL_t m1, q⟩
        | false => exact .inr ⟨seqL_f k1, seqL_f m1, q⟩
      · rw [if_neg z] at po2; exact po2.elim
end
end Mm
end

section
/-! MmP: dicts: displays, comprehensions, len; keywords. -/
namespace Mm
open PySem L2
open PyProof.Rows (envOfC Fr)
section
variable {X : Cx} {E : XK} {pos p : Pos} {e : Expr} {mc : M Cell}
theorem mc_dK : PE X (.Dict [] [] pos) (TC (cg X) E (ret (.dK []))) := by
  refine PE.weak pe_dnewK fun σ H Q ⟨w, S, s, po⟩ p hp => ?_
  exact Po.newAt s po hp ⟨[], upd_same, rfl, .nil⟩
theorem mc_dT : PE X (.Dict [] [] pos) (TC (cg X) E (ret (.dT []))) := by
  refine PE.weak pe_dnewT fun σ H Q ⟨w, S, s, po⟩ p hp => ?_
  exact Po.newAt s po hp ⟨[], upd_same, rfl, .nil⟩
/-- len of a new object -/
def lenC : Cell → M D
  | .lst xs => ret (.int xs.length)
  | .dK kvs => ret (.int kvs.length)
  | .dT kvs => ret (.int kvs.length)
  | .ins _ _ => nope
def rLenA (K : PySem.W.Frag) : List V → Hp → VK → Prop := fun xs H Q => (∃ p ys, xs = [.ref p] ∧ (SqL K H p ys ∨ SqT K H p ys) ∧ Q (.int ys.length) H) ∨ (∃ a kvs, xs = [V.ref a] ∧ H a = some (.dK kvs) ∧ Q (.int kvs.length) H) ∨ rLenT xs H Q
theorem call_lenA : CallR X (.builtin "len") (rLenA X.K) := by
  intro pins s σ H xs us Q I r h
  rcases h with h | h | h
  · exact call_len_seq pins s σ H xs us Q I r h
  · exact call_lenD pins s σ H xs us Q I r h
  · exact call_len_dT pins s σ H xs us Q I r h
theorem len_of {c : Gm} {K : PySem.W.Frag} {w : Wd} {S : Sg} {σ : FSt} {H : Hp} {a : Addr} {x : Cell} {Q : VK} (s : Sim c w S σ H) (hc : CellR c w H a x) (po : Po c E (lenC x S) w S σ H (KD c Q)) : rLenA K [.ref a] H Q := by
  cases x with
  | lst xs =>
    obtain ⟨vs, h1, h2⟩ := hc
    refine .inl ⟨a, vs, rfl, .inl (.inl (.inl h1)), ?_⟩
    rw [← h2.length]
    exact po w H (.refl ..) s _ of_int
  | dK kvs =>
    obtain ⟨ys, h1, h2, h3⟩ := hc
    refine .inr (.inl ⟨a, ys, rfl, h1, ?_⟩)
    rw [← tab_len (c := c) (w := w) ⟨h2, h3⟩]
    exact po w H (.refl ..) s _ of_int
  | dT kvs =>
    obtain ⟨ys, h1, h2, h3⟩ := hc
    refine .inr (.inr ⟨a, ys, rfl, h1, ?_⟩)
    rw [← tab_len (c := c) (w := w) ⟨h2, h3⟩]
    exact po w H (.refl ..) s _ of_int
  | ins _ _ => exact po.elim
theorem me_lenC (hg : Gl X "len") (hm : X.mg "len" = none) (he : PE X e (TC (cg X) E mc)) (h1' : starEach [e] X.env = [(false, eval e X.env)] := by rfl) : PE X (.Call (.Name "len" p) [e] [] pos) (TM (cg X) E (bd mc lenC)) := by
  refine PE.weak (pe_callB call_lenA hg hm rfl (pa_cons he pa_nil h1') (by decide) (by decide) h1' (by rfl)) fun σ H Q ⟨w, S, s, po⟩ => ?_
  refine ⟨w, S, s, ?_⟩
  have po : Po (cg X) E ((mc S).bind lenC) w S σ H (KD (cg X) Q) := po
  cases e : mc S with
  | ok x S' =>
    rw [e] at po
    intro w' H' st s' q hq hc hf hm'
    exact len_of s' hc (Po.rebase st po)
  | exc C fs S' => rw [e] at po; exact po
  | stuck => rw [e] at po; exact po
/-- len of what stands at a place -/
def lenP (P : Pl) : M D := fun S => match getP P S with | some x => lenC x S | none => .stuck
theorem me_lenP {P : M Pl} (hg : Gl X "len") (hm : X.mg "len" = none) (he : PE X e (TP (cg X) E P)) (h1' : starEach [e] X.env = [(false, eval e X.env)] := by rfl) : PE X (.Call (.Name "len" p) [e] [] pos) (TM (cg X) E (bd P lenP)) := by
  refine PE.weak (pe_callB call_lenA hg hm rfl (pa_cons he pa_nil h1') (by decide) (by decide) h1' (by rfl)) fun σ H Q ⟨w, S, s, po⟩ => ?_
  refine ⟨w, S, s, Po.two po fun P w1 S1 H1 st1 s1 po1 a pa => ?_⟩
  unfold lenP at po1
  cases eg : getP P S1 with
  | none => simp only [eg] at po1; exact po1.elim
  | some x =>
    simp only [eg] at po1
    exact len_of s1 (s1.getP pa eg).1 po1
end

/-! ### {k: v for .. in .. if ..}, keys ints or texts -/
open Classical in
noncomputable def dcG (T : Tg) (vs : List Nat) (t : M Bool) (k v : M D) (ok : Sg → Prop) : List D → List (Key × D) → M (List (Key × D))
  | [], acc => fun S => if ok S then .ok acc S else .stuck
  | d :: ds, acc => fun S => if ok S then (match asg T d (inner vs S) with
    | none => .stuck
    | some S1 => match t S1 with
      | .ok true S2 => match k S2 with
        | .ok y S3 => match v S3 with
          | .ok z S4 => match keyD y with
            | some q => if acc.length < sizeLine then dcG T vs t k v ok ds (putA acc q z) (outer vs S S4) else .stuck
            | none => .stuck
          | _ => .stuck
        | _ => .stuck
      | .ok false S2 => dcG T vs t k v ok ds acc (outer vs S S2)
      | _ => .stuck) else .stuck
noncomputable def dcM (src : M Src) (T : Tg) (vs : List Nat) (t : M Bool) (k v : M D) : M Cell := bd src fun s S => if noOwn S.sl vs = true ∧ (∀ i ∈ T.ix, i ∈ vs) then ((dcG T vs t k v s.ok s.ds [] S).bind fun acc => ret (.dK acc)) else .stuck
section
variable {X : Cx} {E : XK} {pos : Pos}
theorem tdc_of {src : M Src} {T : Tg} {mt : M Bool} {mk mv : M D} {vs : List Nat} : ∀ σ H Q, TC (cg X) E (dcM src T vs mt mk mv) σ H Q → tDc (TIm (cg X) E src) (gT (cg X) T) (TB (cg X) E0 mt) (TM (cg X) E0 mk) (TM (cg X) E0 mv) vs σ H Q := by
  rintro σ H Q ⟨w, S, s, po⟩
  unfold dcM at po
  refine ⟨w, S, s, Po.two po fun sr w1 S1 H1 st1 s1 po1 J hJ => ?_⟩
  obtain ⟨ds, ok⟩ := sr
  by_cases hno : noOwn S1.sl vs = true ∧ (∀ i ∈ T.ix, i ∈ vs)
  case neg => rw [if_neg hno] at po1; exact po1.elim
  rw [if_pos hno] at po1
  obtain ⟨no, hix⟩ := hno
  intro Da hD
  have hDs : H Da = none := st1.th Da hD
  obtain ⟨Kf, hK⟩ : ∃ Kf : Cell → Wd → Sg → Hp → Prop, Kf = fun x w' S' H' => ∀ p, H p = none → CellR (cg X) w' H' p x → w'.Hf p = none → ¬ Mu w' S' σ p → Q (.ref p) H' := ⟨_, rfl⟩
  rw [← hK] at po1
  refine ⟨fun i m H2 => m = ds.length - i ∧ i ≤ ds.length ∧ ∃ w2 S2 acc av, Sim (cg X) w2 S2 σ H2 ∧ noOwn S2.sl vs = true ∧ H2 Da = some (.dK av) ∧ TabR (cg X) w2 acc av ∧ w2.Hf Da = none ∧ ¬ Mu w2 S2 σ Da ∧
      Step w1 S1 σ H1 w2 S2 σ H2 ∧ Po (cg X) E ((dcG T vs mt mk mv ok (ds.drop i) acc S2).bind fun acc => ret (Cell.dK acc)) w1 S1 σ H1 Kf, ⟨ds.length, ?_⟩, ?_⟩
  · have stD := Step.laid w1 S1 σ (.dK []) hD
    refine ⟨by simp, Nat.zero_le _, w1, S1, [], [], s1.laid _ hD, no, upd_same, tab_nil, s1.nofz hD, fun m => ?_, stD, po1⟩
    obtain ⟨_, o, e⟩ := s1.mu m
    rw [hD] at e; cases e
  · rintro i m H2 ⟨rfl, hil, w2, S2, acc, av, s2, no2, hA, rA, fA, mA, st2, po2⟩
    have hok : ok S2 := by
      refine Classical.byContradiction fun z => ?_
      cases e : ds.drop i with
      | nil => rw [e] at po2; simp only [dcG, if_neg z] at po2; exact po2
      | cons d t => rw [e] at po2; simp only [dcG, if_neg z] at po2; exact po2
    obtain ⟨go, stop⟩ := hJ i w2 S2 σ H2 st2.le s2 hok
    by_cases hlt : i < ds.length
    case neg =>
      have e : i = ds.length := by omega
      subst e
      refine .inl ⟨stop (Nat.le_refl _), ?_⟩
      rw [List.drop_length] at po2
      simp only [dcG, if_pos hok] at po2
      have q := po2 w2 H2 st2 s2
      rw [hK] at q
      exact q Da hDs ⟨av, hA, rA.1, rA.2⟩ fA mA
    have hd : ds[i]? = some ds[i] := List.getElem?_eq_getElem hlt
    obtain ⟨g1, g2⟩ := go _ hd
    refine .inr ⟨g1, fun H3 => ∃ m', m' < ds.length - i ∧ (m' = ds.length - (i + 1) ∧ i + 1 ≤ ds.length ∧ ∃ w2 S2 acc av, Sim (cg X) w2 S2 σ H3 ∧ noOwn S2.sl vs = true ∧ H3 Da = some (.dK av) ∧ TabR (cg X) w2 acc av ∧ w2.Hf Da = none ∧ ¬ Mu w2 S2 σ Da ∧
      Step w1 S1 σ H1 w2 S2 σ H3 ∧ Po (cg X) E ((dcG T vs mt mk mv ok (ds.drop (i + 1)) acc S2).bind fun acc => ret (Cell.dK acc)) w1 S1 σ H1 Kf), fun _ h => h, fun x H' y => ?_⟩
    obtain ⟨w3, st3, s3, r3⟩ := g2 x H' y
    rw [List.drop_eq_getElem_cons hlt] at po2
    simp only [dcG, if_pos hok] at po2
    cases ea : asg T ds[i] (inner vs S2) with
    | none => simp only [ea] at po2; exact po2.elim
    | some S4 =>
      simp only [ea] at po2
      refine ⟨w3, inner vs S2, ds[i], S4, s3.inner, r3, ea, fun σ4 k4 => ?_⟩
      have out4 : ∀ j, j ∉ vs → σ4[j]? = σ[j]? := fun j hj => (k4.out j fun z => hj (hix j z)).trans (wipe_out' hj)
      have len4 : σ4.length = σ.length := k4.len.trans (wipe_length σ vs)
      have stI : Step w2 S2 σ H2 w3 S4 σ4 H' := (st3.trans (Step.inner s3)).trans k4.st
      refine ⟨wipe_eq out4 len4, w3, S4, k4.sim, ?_⟩
      have back : ∀ {w5 : Wd} {S5 : Sg} {H5 : Hp}, Step w3 S4 σ4 H' w5 S5 σ4 H5 → Sim (cg X) w5 S5 σ4 H5 → Step w2 S2 σ H2 w5 (outer vs S2 S5) σ H5 ∧ Sim (cg X) w5 (outer vs S2 S5) σ H5 ∧ noOwn (outer vs S2 S5).sl vs = true ∧ H5 Da = some (.dK av) ∧ w5.Hf Da = none ∧ ¬ Mu w5 (outer vs S2 S5) σ Da := fun {w5 S5 H5} st5 s5 => by
        have so := s2.outer no2 (stI.le.trans st5.le) s5 out4 len4
        have sto : Step w2 S2 σ H2 w5 (outer vs S2 S5) σ H5 := (stI.trans st5).trans (Step.outer no2 out4)
        obtain ⟨b1, b2, b3⟩ := sto.keep Da _ hA fA mA
        refine ⟨sto, so, List.all_eq_true.mpr fun v hv => ?_, b1, b2, b3⟩
        cases hs : (outer vs S2 S5).sl[v]? with
        | none => rfl
        | some z =>
          cases z with
          | own x => exact absurd hv (outer_own no2 hs).1
          | emp => rfl
          | val d => rfl
      cases et : mt S4 with
      | stuck => simp only [et] at po2; exact po2.elim
      | exc _ _ _ => simp only [et] at po2; exact po2.elim
      | ok b S5 =>
        simp only [et] at po2
        intro w5 H5 st5 s5
        cases b with
        | false =>
          obtain ⟨b1, b2, b3, b4, b5, b6⟩ := back st5 s5
          exact ⟨_, by omega, rfl, hlt, w5, _, acc, av, b2, b3, b4, ⟨rA.1, Reps.mono b1.le _ _ rA.2⟩, b5, b6, st2.trans b1, po2⟩
        | true =>
          refine ⟨w5, S5, s5, ?_⟩
          cases ey : mk S5 with
          | stuck => simp only [ey] at po2; exact po2.elim
          | exc _ _ _ => simp only [ey] at po2; exact po2.elim
          | ok y S6 =>
            simp only [ey] at po2
            intro w6 H6 st6 s6 vy ry
            refine ⟨w6, S6, s6, ?_⟩
            cases ez : mv S6 with
            | stuck => simp only [ez] at po2; exact po2.elim
            | exc _ _ _ => simp only [ez] at po2; exact po2.elim
            | ok z S7 =>
              simp only [ez] at po2
              intro w7 H7 st7 s7 vz rz
              cases ek : keyD y with
              | none => simp only [ek] at po2; exact po2.elim
              | some q =>
                simp only [ek] at po2
                obtain ⟨b1, b2, b3, b4, b5, b6⟩ := back ((st5.trans st6).trans st7) s7
                by_cases hz : acc.length < sizeLine
                case neg => rw [if_neg hz] at po2; exact po2.elim
                rw [if_pos hz] at po2
                have rA7 : TabR (cg X) w7 acc av := ⟨rA.1, Reps.mono b1.le _ _ rA.2⟩
                have T' := tab_put (k := q) rA7 rz
                refine ⟨av, q, keyD_of ry ek, b4, by rw [← tab_len rA]; exact hz, _, by omega, rfl, hlt, w7, _, putA acc q z, putK av q vz, b2.loose b5 b6, b3, upd_same, T', b5, b6, ?_, po2⟩
                have stL : Step w1 S1 σ H1 w7 (outer vs S2 S7) σ H7 := st2.trans b1
                exact ⟨stL.le, fun a o h1 h2 h3 => by
                  obtain ⟨q1, q2, q3⟩ := stL.keep a o h1 h2 h3
                  exact ⟨by rw [upd_ne (ne_of_none h1 hD)]; exact q1, q2, q3⟩, fun a h => stL.th a (upd_th a h)⟩
variable {kx vx tg iter : Expr} {ifs : List Expr} {scope : Scope} {own : List (Str × Nat)} {src : M Src} {T : Tg} {mt : M Bool} {mk mv : M D}
theorem mc_dc (hc : X.calm = true) (hN : X.N.Nodup) (hi : PI X tg iter (TIm (cg X) E src)) (ok : BlkOk X.N X.env.scope scope own)
    (hg : ∀ (s : Shared) (H : Hp) (C : Addr) (cl : List (Str × Addr)) (fp : List Addr), PG (X.blk s H scope (compEnvC scope cl C X.env) fp) tg (gT (cg X) T))
    (ht : ∀ (s : Shared) (H : Hp) (C : Addr) (cl : List (Str × Addr)) (fp : List Addr), PTs (X.blk s H scope (compEnvC scope cl C X.env) fp) ifs (TB (cg X) E0 mt))
    (hk : ∀ (s : Shared) (H : Hp) (C : Addr) (cl : List (Str × Addr)) (fp : List Addr), PE (X.blk s H scope (compEnvC scope cl C X.env) fp) kx (TM (cg X) E0 mk))
    (hv : ∀ (s : Shared) (H : Hp) (C : Addr) (cl : List (Str × Addr)) (fp : List Addr), PE (X.blk s H scope (compEnvC scope cl C X.env) fp) vx (TM (cg X) E0 mv))
    (hs : ∀ x, foldedSetIterable iter X.env x = pure x := by intro _; rfl) : PE X (.DictComp kx vx [⟨tg, iter, ifs, 0⟩] scope pos) (TC (cg X) E (dcM src T (own.map (·.2)) mt mk mv)) :=
  PE.weak (pe_dc hc hN hi ok hg ht hk hv hs) tdc_of
end

/-! ### keywords -/
def perm {α : Type} (idx : List Nat) (l : List α) : List α := idx.filterMap (l[·]?)
theorem perm_reps {c : Gm} {w : Wd} {ds : List D} {vs : List V} (r : Reps c w ds vs) : ∀ (idx : List Nat), Reps c w (perm idx ds) (perm idx vs)
  | [] => .nil
  | i :: is => by
    unfold perm
    rw [List.filterMap_cons, List.filterMap_cons]
    cases e : ds[i]? with
    | none =>
      have : vs[i]? = none := by
        have h := List.getElem?_eq_none_iff.mp e
        exact List.getElem?_eq_none_iff.mpr (by rw [← r.length]; exact h)
      rw [this]
      exact perm_reps r is
    | some d =>
      obtain ⟨v, hv, rv⟩ := r.get e
      rw [hv]
      exact .cons rv (perm_reps r is)
theorem perm_vals {vs : List V} {us : List Value} (r : Vals vs us) : ∀ (idx : List Nat), Vals (perm idx vs) (perm idx us)
  | [] => .nil
  | i :: is => by
    unfold perm
    rw [List.filterMap_cons, List.filterMap_cons]
    cases e : vs[i]? with
    | none =>
      have : us[i]? = none := by
        have h := List.getElem?_eq_none_iff.mp e
        exact List.getElem?_eq_none_iff.mpr (by rw [← r.length]; exact h)
      rw [this]
      exact perm_vals r is
    | some d =>
      obtain ⟨v, hv, rv⟩ := r.get e
      rw [hv]
      exact .cons rv (perm_vals r is)
/-- how the keywords ks bind behind n positional values: idx puts them in the parameters' order -/
def KwB (x qual : Str) (st : Stmt) (ps ks : List Str) (n : Nat) (idx : List Nat) : Prop :=
  ∀ (kV doc pm : Value) (an : Option Addr) (cdv ct : Value) (us ws : List Value), us.length = n → ws.length = ks.length → bindArgs (PySem.W.fnOf x qual (defArgs st) (defBody st) (defScope st) .none kV doc pm an cdv ct) ⟨us, ks.zip ws⟩ = pure (ps.zip (us ++ perm idx ws))
theorem kbn_of {K : PySem.W.Frag} {x qual : Str} {st : Stmt} {f : Addr} {fd : FuncData} {ps ks : List Str} {n : Nat} {idx : List Nat} (F : Fun K x qual st f fd) (h : KwB x qual st ps ks n idx) : KBn K fd ps n ks (fun us ws => us ++ perm idx ws) (fun vs zs => vs ++ perm idx zs) := by
  obtain ⟨oc, od, kV, doc, pm, an, cdv, ct, osl, rfl, lk, hcd⟩ := F.ex
  exact ⟨fun s us ws _ l1 l2 => BindsTo.of_eq (h kV doc pm an cdv ct us ws l1 l2), fun r1 r2 => r1.append (perm_vals r2 idx)⟩
section
variable {X : Cx} {E : XK} {k j n : Nat} {x qual : Str} {st : Stmt} {ps ks : List Str} {idx : List Nat} {f : F} {p pos : Pos} {e : Expr} {es : List Expr} {kws : List Keyword} {m : M D} {ms mk : M (List D)} {nm : Option Str} {kpos : Pos}
theorem mk_nil : PK X [] (TL (cg X) E nilM) := ⟨fun pos pins s σ H Q I ⟨w, S, sm, po⟩ => pk_nil.run pos pins s σ H Q I (po w H (.refl ..) sm [] .nil)⟩
theorem mk_cons (h : PE X e (TM (cg X) E m)) (t : PK X kws (TL (cg X) E ms)) : PK X (⟨nm, e, kpos⟩ :: kws) (TL (cg X) E (consM m ms)) := ⟨fun pos pins s σ H Q I ⟨w, S, sm, po⟩ => by
  refine (pk_cons h t).run pos pins s σ H Q I ⟨w, S, sm, Po.two (k := fun d => bd ms fun ds => ret (d :: ds)) po fun d w1 S1 H1 st1 s1 po1 v r => ?_⟩
  refine ⟨w1, S1, s1, Po.two (k := fun ds => ret (d :: ds)) po1 fun ds w2 S2 H2 st2 s2 po2 vs rs => ?_⟩
  exact po2 w2 H2 (.refl ..) s2 _ (.cons (Rep.mono st2.le _ _ r) rs)⟩
def tCallN0 (m : Nat) (sp : Sp) (gV : List V → List V → List V) (E : XK) (tk : TA) : TE := fun σ H Q => tk σ H fun zs H2 => zs.length = m ∧ sp (gV [] zs) H2 Q E
theorem pe_callN0 {CX : CXT} {fa : Addr} {fd : FuncData} {sp : Sp} {tk : TA} {g : List Value → List Value → List Value} {gV : List V → List V → List V} (F : FnOk X.prog X.w X.K X.mg X.base CX k fa fd ps sp) (hr : Room k X.A) (hg : Gl X x) (hm : X.mg x = some (.ref fa)) (hk : PySem.W.keepIn X.K (.ref fa) = true) (hb : KBn X.K fd ps 0 ks g gV) (hx : Passes CX X E) (hkw : PK X kws tk)
    (hall : (backToKw pos (keywordEach kws X.env)).all (·.1.isSome) = true := by rfl) (hks : (backToKw pos (keywordEach kws X.env)).filterMap (·.1) = ks := by rfl) (hdb : (x == ("__debug__" : Str)) = false := by decide)
    (hpl : ((backTo pos (starEach [] X.env)).any (·.1) || (backToKw pos (keywordEach kws X.env)).any (·.1.isNone)) = false := by rfl) : PE X (.Call (.Name x p) [] kws pos) (tCallN0 ks.length sp gV E tk) := by
  refine ⟨fun pins s σ H Q I h => ?_⟩
  refine wpAny_Call_Name_kw (ld_glob I hg hm ?_ hdb)
  refine PySem.W.callWith_KW0 (h₀ := X.base) I.ok.mod.kin hk hall ?_ hpl
  refine thn (hkw.run pos pins s σ H _ I h) fun ws s2 ⟨zs, H2, I2, rz, l2, q2⟩ => ⟨I2.kIn, ?_⟩
  rw [hks]
  exact run_fnN (us := []) (vs := []) F hr hb hx I2 .nil rz rfl l2 q2
/-- f(k = v, ..) -/
theorem perm_len {α : Type} {idx : List Nat} {l : List α} (h : ∀ i ∈ idx, i < l.length) : (perm idx l).length = idx.length := by
  induction idx with
  | nil => rfl
  | cons i is ih =>
    unfold perm
    rw [List.filterMap_cons, List.getElem?_eq_getElem (h i List.mem_cons_self)]
    simp only [List.length_cons]
    have := ih fun i hi => h i (List.mem_cons_of_mem _ hi)
    unfold perm at this
    rw [this]
def callK (f : F) (idx : List Nat) (mk : M (List D)) : M D := bd mk fun ds => inF (f (perm idx ds))
theorem me_callK (c : FnM X.prog X.w X.K X.mg X.base k x st ps f) (hb : KwB x x st ps ks 0 idx) (hr : Room j X.A) (hk : k ≤ j) (hx : Passes (L2.CX X.prog X.w) X E) (hg : Gl X x) (hkw : PK X kws (TL (cg X) E mk)) (hn : ArgN n mk) (hl : ks.length = n := by rfl) (hl2 : (idx.length == ps.length && idx.all fun i => decide (i < n)) = true := by rfl)
    (hall : (backToKw pos (keywordEach kws X.env)).all (·.1.isSome) = true := by rfl) (hks : (backToKw pos (keywordEach kws X.env)).filterMap (·.1) = ks := by rfl) (hdb : (x == ("__debug__" : Str)) = false := by decide)
    (hpl : ((backTo pos (starEach [] X.env)).any (·.1) || (backToKw pos (keywordEach kws X.env)).any (·.1.isNone)) = false := by rfl) : PE X (.Call (.Name x p) [] kws pos) (TM (cg X) E (callK f idx mk)) := by
  obtain ⟨fa, fd, F, hm, kp, _, Fu⟩ := c.ex
  refine PE.weak (pe_callN0 F (hr.mono hk) hg hm kp (kbn_of Fu hb) hx hkw hall hks hdb hpl) fun σ H Q ⟨w, S, s, po⟩ => ?_
  obtain ⟨e1, e2⟩ := Bool.and_eq_true_iff.mp hl2
  refine ⟨w, S, s, po_args hn po fun ds w1 S1 H1 hd st1 s1 po1 vs r => ⟨by rw [← r.length, hd, hl], ?_⟩⟩
  refine inF_of c.flat ?_ s1 (perm_reps r idx) po1
  rw [perm_len fun i hi => by rw [hd]; exact of_decide_eq_true (List.all_eq_true.mp e2 i hi)]
  exact beq_iff_eq.mp e1
/-- C(k = v, ..) -/
def makeK (C : Str) (f : F) (idx : List Nat) (mk : M (List D)) : M D := bd mk fun ds => newM C f (perm idx ds)
theorem me_makeK (c : MkM X.prog X.w X.K X.mg X.base k x qual st ps f) (hb : KwB "__init__" qual st ps ks 1 idx) (hr : Room j X.A) (hk : k + 1 ≤ j) (hx : Passes (L2.CX X.prog X.w) X E) (hg : Gl X x) (hkw : PK X kws (TL (cg X) E mk)) (hn : ArgN n mk) (hl : ks.length = n := by rfl) (hl2 : (idx.length + 1 == ps.length && idx.all fun i => decide (i < n)) = true := by rfl)
    (hall : (backToKw pos (keywordEach kws X.env)).all (·.1.isSome) = true := by rfl) (hks : (backToKw pos (keywordEach kws X.env)).filterMap (·.1) = ks := by rfl) (hdb : (x == ("__debug__" : Str)) = false := by decide)
    (hpl : ((backTo pos (starEach [] X.env)).any (·.1) || (backToKw pos (keywordEach kws X.env)).any (·.1.isNone)) = false := by rfl) : PE X (.Call (.Name x p) [] kws pos) (TM (cg X) E (makeK x f idx mk)) := by
  obtain ⟨C, fa, fd, M, F, hm, _, Fu⟩ := c.ex
  refine PE.weak (pe_makeK0 M F (hr.mono hk) hg hm (kbn_of Fu hb) hx hkw hall hks hdb hpl) fun σ H Q ⟨w, S, s, po⟩ => ?_
  obtain ⟨e1, e2⟩ := Bool.and_eq_true_iff.mp hl2
  have po2 := po_args hn po fun ds w1 S1 H1 hd st1 s1 po1 vs r => (⟨by rw [← r.length, hd, hl], new_of (n := ps.length) c.flat (gl_of hm) (by
    rw [perm_len fun i hi => by rw [hd]; exact of_decide_eq_true (List.all_eq_true.mp e2 i hi)]
    exact beq_iff_eq.mp e1) s1 (perm_reps r idx) po1⟩ : vs.length = ks.length ∧ ∀ x dx, H1 x = none → H1 dx = none → dx ≠ x → spM (cg X) ps.length f (.ref x :: perm idx vs) (upd (upd H1 dx (.own x)) x (.ins C dx [])) (fun v H2 => v = .non ∧ Q (.ref x) H2) E)
  obtain ⟨w', S', s', q⟩ : TL (cg X) E mk σ H fun vs H1 => vs.length = ks.length ∧ ∀ x dx, H1 x = none → H1 dx = none → dx ≠ x → spM (cg X) ps.length f (.ref x :: perm idx vs) (upd (upd H1 dx (.own x)) x (.ins C dx [])) (fun v H2 => v = .non ∧ Q (.ref x) H2) E := ⟨w, S, s, po2⟩
  have z : TL (cg X) E mk σ H fun vs H1 => (0 : Nat) = 0 ∧ vs.length = ks.length ∧ ∀ x dx, H1 x = none → H1 dx = none → dx ≠ x → spM (cg X) ps.length f ([.ref x] ++ perm idx vs) (upd (upd H1 dx (.own x)) x (.ins C dx [])) (fun v H2 => v = .non ∧ Q (.ref x) H2) E := ⟨w', S', s', q.imp fun ds w1 S1 H1 _ _ k vs r => ⟨rfl, k vs r⟩⟩
  exact z
end
end Mm
end

section
/-! MmQ: list(range(..)); the facts of the written part, by the head. -/
namespace Mm
open PySem L2
open PyProof.Rows (envOfC Fr)
section
variable {X : Cx} {E : XK} {pos p p2 pos2 : Pos} {a b : Expr} {ma mb : M D} {c : Gm} {w : Wd}
theorem rng_reps (lo hi : Int) : Reps c w (rngD lo (hi - lo).toNat) (rgV lo hi) := by
  have : rngD lo (hi - lo).toNat = ((List.range (hi - lo).toNat).map fun i => lo + ((i : Nat) : Int)).map D.int := by unfold rngD; rw [List.map_map]; rfl
  rw [this]
  have e : rgV lo hi = ((List.range (hi - lo).toNat).map fun i => lo + ((i : Nat) : Int)).map V.int := by unfold rgV; rw [List.map_map]; rfl
  rw [e]
  exact Reps.ofInts _
def rngC (i j : Int) : M Cell := if 0 ≤ i ∧ i ≤ 16777216 ∧ 0 ≤ j ∧ j ≤ 16777216 then ret (.lst (rngD i (j - i).toNat)) else nope
def rngC1 : D → M Cell
  | .int j => rngC 0 j
  | _ => nope
def rngC2 : D → D → M Cell
  | .int i, .int j => rngC i j
  | _, _ => nope
theorem rngC_of {w : Wd} {S : Sg} {σ : FSt} {H : Hp} {i j : Int} {Q : VK} (s : Sim c w S σ H) (po : Po c E (rngC i j S) w S σ H fun x w' S' H' => ∀ p, H p = none → CellR c w' H' p x → w'.Hf p = none → ¬ Mu w' S' σ p → Q (.ref p) H') :
    RgOk i j ∧ ∀ q, H q = none → Q (.ref q) (upd H q (.lst (rgV i j))) := by
  unfold rngC at po
  by_cases z : 0 ≤ i ∧ i ≤ 16777216 ∧ 0 ≤ j ∧ j ≤ 16777216
  · rw [if_pos z] at po
    exact ⟨.of_le z.1 z.2.2.2 z.2.1 z.2.2.1, fun q hq => Po.newAt s po hq ⟨_, upd_same, rng_reps i j⟩⟩
  · rw [if_neg z] at po; exact po.elim
theorem mc_listRg1 (hc : X.calm = true) (hg : Gl X "list") (hm : X.mg "list" = none) (hg2 : Gl X "range") (hm2 : X.mg "range" = none) (ha : PE X a (TM (cg X) E ma))
    (na : starEach [a] X.env = (false, eval a X.env) :: starEach [] X.env := by rfl) (nb : starEach [.Call (.Name "range" p2) [a] [] pos2] X.env = (false, eval (.Call (.Name "range" p2) [a] [] pos2) X.env) :: starEach [] X.env := by rfl) :
    PE X (.Call (.Name "list" p) [.Call (.Name "range" p2) [a] [] pos2] [] pos) (TC (cg X) E (bd ma rngC1)) := by
  refine PE.weak (pe_listRg hc hg hm (prg_1 hg2 hm2 ha na) nb) fun σ H Q ⟨w, S, s, po⟩ => ?_
  refine ⟨w, S, s, Po.two (k := rngC1) po fun d w1 S1 H1 st1 s1 po1 v r => ?_⟩
  cases d with
  | int j =>
    refine ⟨j, rep_int r, rngC_of s1 (po1.imp fun x w2 S2 H2 st2 s2 k p hp => k p (st1.th p hp))⟩
  | _ => exact po1.elim
theorem mc_listRg2 (hc : X.calm = true) (hg : Gl X "list") (hm : X.mg "list" = none) (hg2 : Gl X "range") (hm2 : X.mg "range" = none) (ha : PE X a (TM (cg X) E ma)) (hb : PE X b (TM (cg X) E mb))
    (na : starEach [a, b] X.env = (false, eval a X.env) :: starEach [b] X.env := by rfl) (nb : starEach [b] X.env = (false, eval b X.env) :: starEach [] X.env := by rfl) (hp : (backTo pos2 (starEach [b] X.env)).any (·.1) = false := by rfl)
    (nc : starEach [.Call (.Name "range" p2) [a, b] [] pos2] X.env = (false, eval (.Call (.Name "range" p2) [a, b] [] pos2) X.env) :: starEach [] X.env := by rfl) :
    PE X (.Call (.Name "list" p) [.Call (.Name "range" p2) [a, b] [] pos2] [] pos) (TC (cg X) E (bd ma fun x => bd mb fun y => rngC2 x y)) := by
  refine PE.weak (pe_listRg hc hg hm (prg_2 hg2 hm2 ha hb na nb hp) nc) fun σ H Q ⟨w, S, s, po⟩ => ?_
  refine ⟨w, S, s, Po.two (k := fun x => bd mb fun y => rngC2 x y) po fun d w1 S1 H1 st1 s1 po1 v r => ?_⟩
  refine ⟨w1, S1, s1, Po.two (k := fun y => rngC2 d y) po1 fun d2 w2 S2 H2 st2 s2 po2 v2 r2 => ?_⟩
  have r := Rep.mono st2.le _ _ r
  cases d2 with
  | int j =>
    cases d with
    | int i => exact ⟨i, j, rep_int r, rep_int r2, rngC_of s2 (po2.imp fun x w2 S2 H2 _ s2 k p hp => k p (st1.th p (st2.th p hp)))⟩
    | _ => exact po2.elim
  | _ => cases d <;> exact po2.elim
end
/-! ### a def, a class as the top has written them -/
structure DefIn (K : PySem.W.Frag) (mg : Str → Option Value) (x : Str) (st : Stmt) : Prop where
  ex : ∃ fa fd, mg x = some (.ref fa) ∧ Fun K x x st fa fd
theorem defIn_mk {K : PySem.W.Frag} {h : Heap} {mg : Str → Option Value} {x : Str} {st : Stmt} {f : Addr} {oc : Value} {od an : Option Addr} {osl : Array (Option Value)} {kV doc pm cdv ct : Value} (X : K.In h) (G : h.Ns mainGlobals mg)
    (a : PySem.W.nsIn K mainGlobals x = some (some (.ref f))) (l : K.lookup f = some ⟨oc, od, .func (PySem.W.fnOf x x (defArgs st) (defBody st) (defScope st) .none kV doc pm an cdv ct), osl⟩) (c : PySem.W.codeIn K cdv x = true) (k : PySem.W.keepIn K (.ref f) = true) : DefIn K mg x st :=
  ⟨f, _, PySem.W.mg_of X G a, fun_mk l c k⟩
/-- a method (or __init__) of the class at C -/
structure MethIn (K : PySem.W.Frag) (C : Addr) (m qual : Str) (st : Stmt) : Prop where
  ex : ∃ fa fd, PySem.W.findIn K (.ref C) m = some (some (.ref fa)) ∧ PySem.W.isFn K (.ref fa) = true ∧ PySem.W.keepIn K (.ref fa) = true ∧ Fun K m qual st fa fd
theorem methIn_mk {K : PySem.W.Frag} {C : Addr} {m qual : Str} {st : Stmt} {f : Addr} {oc : Value} {od an : Option Addr} {osl : Array (Option Value)} {kV doc pm cdv ct : Value}
    (a : PySem.W.findIn K (.ref C) m = some (some (.ref f))) (i : PySem.W.isFn K (.ref f) = true) (l : K.lookup f = some ⟨oc, od, .func (PySem.W.fnOf m qual (defArgs st) (defBody st) (defScope st) .none kV doc pm an cdv ct), osl⟩) (c : PySem.W.codeIn K cdv qual = true) (k : PySem.W.keepIn K (.ref f) = true) : MethIn K C m qual st :=
  ⟨f, _, a, i, k, fun_mk l c k⟩
theorem me_gloE {X : Cx} {E : XK} {pos : Pos} {x : Str} (hg : Gl X x) (hm : ∃ a, X.mg x = some (.ref a)) (hd : (x == ("__debug__" : Str)) = false := by decide) : PE X (.Name x pos) (TM (cg X) E (ret (.glo x))) := by
  obtain ⟨a, hm⟩ := hm
  exact me_glo hg hm hd
structure MkIn (K : PySem.W.Frag) (mg : Str → Option Value) (C qual : Str) (st : Stmt) : Prop where
  ex : ∃ Ca fa fd, mg C = some (.ref Ca) ∧ Mk K Ca fa ∧ Fun K "__init__" qual st fa fd
structure MtIn (K : PySem.W.Frag) (mg : Str → Option Value) (C m qual : Str) (st : Stmt) : Prop where
  ex : ∃ Ca fa fd, mg C = some (.ref Ca) ∧ Cls K Ca ∧ Meth K Ca m fa ∧ Fun K m qual st fa fd
structure EqIn (K : PySem.W.Frag) (mg : Str → Option Value) (C qual : Str) (st : Stmt) (cls : List Str) : Prop where
  ex : ∃ Ca fa fd, mg C = some (.ref Ca) ∧ PySem.W.findIn K (.ref Ca) "__eq__" = some (some (.ref fa)) ∧ PySem.W.isFn K (.ref fa) = true ∧ PySem.W.findIn K (.ref Ca) "__ne__" = some (some (.builtin "object.__ne__")) ∧ PySem.W.mroIn K Ca (.type "object") = some true ∧
    (∀ t ∈ known, PySem.W.notFirst K Ca (.type t) = true) ∧ (∀ B ∈ cls, ∀ Cb, mg B = some (.ref Cb) → PySem.W.notFirst K Ca (.ref Cb) = true) ∧ Fun K "__eq__" qual st fa fd
section
variable {P : Program} {w : World} {K : PySem.W.Frag} {mg : Str → Option Value} {base : Heap} {C m qual x : Str} {st : Stmt} {ps : List Str} {k n : Nat} {b : M Fl} {cls : List Str}
theorem mkM_of (I : MkIn K mg C qual st) (hb : ∀ {fa fd}, Fun K "__init__" qual st fa fd → Binds K fd ps []) (h : ∀ fa fd, Fun K "__init__" qual st fa fd → FnOk P w K mg base (L2.CX P w) k fa fd ps (spM (gmOf K mg) ps.length (runF n b))) : MkM P w K mg base k C qual st ps (runF n b) := by
  obtain ⟨Ca, fa, fd, hm, M, F⟩ := I.ex
  exact ⟨flat_runF, Ca, fa, fd, M, h fa fd F, hm, hb F, F⟩
theorem mtM_of (I : MtIn K mg C m qual st) (hb : ∀ {fa fd}, Fun K m qual st fa fd → Binds K fd ps []) (h : ∀ fa fd, Fun K m qual st fa fd → FnOk P w K mg base (L2.CX P w) k fa fd ps (spM (gmOf K mg) ps.length (runF n b))) : MtM P w K mg base k C m qual st ps (runF n b) := by
  obtain ⟨Ca, fa, fd, hm, cl, M, F⟩ := I.ex
  exact ⟨flat_runF, Ca, fa, fd, hm, cl, M, h fa fd F, hb F, F⟩
theorem eqM_of (I : EqIn K mg C qual st cls) (hb : ∀ {fa fd}, Fun K "__eq__" qual st fa fd → Binds K fd ps []) (h : ∀ fa fd, Fun K "__eq__" qual st fa fd → FnOk P w K mg base (L2.CX P w) k fa fd ps (spM (gmOf K mg) ps.length (runF n b))) : EqM P w K mg base k C ps (runF n b) cls := by
  obtain ⟨Ca, fa, fd, hm, h1, h2, h3, h4, h5, h6, F⟩ := I.ex
  exact ⟨flat_runF, Ca, fa, fd, hm, h fa fd F, hb F, h1, h2, h3, h4, h5, h6⟩
/-- nothing is promised -/
theorem fnM0 {fa : Addr} {fd : FuncData} (F : Fun K x x st fa fd) (hm : mg x = some (.ref fa)) (hb : Binds K fd ps []) : FnM P w K mg base k x st ps (fun _ => nope) := by
  refine ⟨fun ds g => trivial, fa, fd, ⟨fun vs H Q E h => h.1, fun A outer s H args us vs Q E _ _ _ _ h => ?_⟩, hm, F.kp, hb, F⟩
  obtain ⟨_, _, _, _, _, _, po⟩ := h
  exact po.elim
end
end Mm
end

section
/-! MmR: from the written part's facts; the law's end. -/
namespace Mm
open PySem L2
open PyProof.Rows (envOfC Fr)
section
variable {K : PySem.W.Frag} {h : Heap} {mg : Str → Option Value} {C : Str} {Ca fa : Addr}
theorem clsA_mk {fs : List Str} (hm : mg C = some (.ref Ca)) (c : Cls K Ca) (hf : ∀ f ∈ fs, PySem.W.findIn K (.ref Ca) f = some none) : ∀ B ∈ ([C] : List Str), ClsA K mg B fs := fun B hB => by
  rw [List.mem_singleton.mp hB]
  exact ⟨Ca, hm, c, hf⟩
theorem known_all {p : String → Prop} (h1 : p "NoneType") (h2 : p "bool") (h3 : p "int") (h4 : p "str") (h5 : p "list") (h6 : p "tuple") (h7 : p "dict") (h8 : p "function") : ∀ b ∈ known, p b := fun b hb => by
  unfold known at hb
  simp only [List.mem_cons, List.not_mem_nil, or_false] at hb
  rcases hb with rfl | rfl | rfl | rfl | rfl | rfl | rfl | rfl <;> assumption
theorem mro_noRef : ∀ a ∈ known, ∀ C : Addr, (PySem.fastBuiltinMro a).map (·.contains (Value.ref C)) = some false := by
  refine known_all ?_ ?_ ?_ ?_ ?_ ?_ ?_ ?_
  all_goals
    intro C
    first
      | rfl
      | kernel_rfl
theorem kit_meta : ∀ b ∈ known, PySem.W.kitMeta b = true := by decide +kernel
theorem kcl_mk (hm : mg C = some (.ref Ca)) (c : Cls K Ca) (h1 : PySem.W.findIn K (.ref Ca) "__class__" = some (some (.builtin "object.__class__"))) (h2 : PySem.W.specialIn K (.builtin "object.__class__") "__get__" = some (some (.builtin "getset_descriptor.__get__")))
    (h3 : PySem.W.takesIn K (.builtin "object.__class__") = some true) (h4 : PySem.W.mroIn K Ca (.type "object") = some true) (h5 : ∀ b ∈ known, PySem.W.mroIn K Ca (.type b) = some false) (h6 : PySem.W.typeIn K (.ref Ca) = some (.type "type")) : Kcl K mg C := by
  refine ⟨Ca, hm, c, h1, h2, h3, h4, fun b hb => ?_, fun a ha => ?_⟩
  · unfold PySem.W.kitOne
    rw [if_neg (by simp)]
    unfold PySem.W.kitCls
    simp only [kit_meta b hb, if_true]
    exact h5 b hb
  · unfold PySem.W.kitOne
    rw [if_neg (by simp)]
    unfold PySem.W.kitCls
    have hs : (PySem.W.clsIn K Ca).isSome = true := by
      have hd := c.hd
      unfold PySem.W.hasDictIn at hd
      cases e : PySem.W.clsIn K Ca with
      | none => rw [e] at hd; cases hd
      | some _ => rfl
    simp only [hs, h6, beq_self_eq_true, Bool.and_self, if_true]
    exact mro_noRef a ha Ca
theorem first_known {Ca : Addr} : ∀ t ∈ known, PySem.W.notFirst K Ca (.type t) = true := fun t ht => by
  unfold PySem.W.notFirst
  have e : PySem.W.subIn K (.type t) (.ref Ca) = some false := mro_noRef t ht Ca
  rw [e]
  simp
theorem first_self {Ca : Addr} : PySem.W.notFirst K Ca (.ref Ca) = true := by unfold PySem.W.notFirst; simp
theorem cl_one {B : Str} {C1 Cb D1 : Addr} (h1 : mg B = some (.ref D1)) (h2 : mg B = some (.ref Cb)) (h3 : PySem.W.notFirst K C1 (.ref D1) = true) : PySem.W.notFirst K C1 (.ref Cb) = true := by
  rw [h1] at h2; cases h2; exact h3
end
section
variable {K : PySem.W.Frag} {mg : Str → Option Value} {C x m qual : Str} {Ca f : Addr} {st : Stmt} {oc : Value} {od an : Option Addr} {osl : Array (Option Value)} {kV doc pm cdv ct : Value} {cls : List Str}
theorem kfn_mk (h1 : mg x = some (.ref f)) (h2 : PySem.W.typeIn K (.ref f) = some (.type "function")) : Kfn K mg x := ⟨f, h1, h2⟩
theorem glo_mk (h1 : mg x = some (.ref f)) : ∃ a, mg x = some (.ref a) := ⟨f, h1⟩
theorem mkIn_mk (h1 : mg C = some (.ref Ca)) (h2 : PySem.W.makesIn K Ca = true) (h3 : PySem.W.findIn K (.ref Ca) "__init__" = some (some (.ref f))) (h4 : PySem.W.isFn K (.ref f) = true) (h5 : PySem.W.keepIn K (.ref Ca) = true)
    (l : K.lookup f = some ⟨oc, od, .func (PySem.W.fnOf "__init__" qual (defArgs st) (defBody st) (defScope st) .none kV doc pm an cdv ct), osl⟩) (c : PySem.W.codeIn K cdv qual = true) (k : PySem.W.keepIn K (.ref f) = true) : MkIn K mg C qual st := ⟨Ca, f, _, h1, ⟨h2, h3, h4, h5⟩, fun_mk l c k⟩
theorem mtIn_mk (h1 : mg C = some (.ref Ca)) (h2 : Cls K Ca) (h3 : PySem.W.findIn K (.ref Ca) m = some (some (.ref f))) (h4 : PySem.W.isFn K (.ref f) = true)
    (l : K.lookup f = some ⟨oc, od, .func (PySem.W.fnOf m qual (defArgs st) (defBody st) (defScope st) .none kV doc pm an cdv ct), osl⟩) (c : PySem.W.codeIn K cdv qual = true) (k : PySem.W.keepIn K (.ref f) = true) : MtIn K mg C m qual st := ⟨Ca, f, _, h1, h2, ⟨h3, h4, k⟩, fun_mk l c k⟩
theorem eqIn_mk (h1 : mg C = some (.ref Ca)) (h3 : PySem.W.findIn K (.ref Ca) "__eq__" = some (some (.ref f))) (h4 : PySem.W.isFn K (.ref f) = true) (h5 : PySem.W.findIn K (.ref Ca) "__ne__" = some (some (.builtin "object.__ne__"))) (h6 : PySem.W.mroIn K Ca (.type "object") = some true)
    (h8 : ∀ B ∈ cls, ∀ Cb, mg B = some (.ref Cb) → PySem.W.notFirst K Ca (.ref Cb) = true)
    (l : K.lookup f = some ⟨oc, od, .func (PySem.W.fnOf "__eq__" qual (defArgs st) (defBody st) (defScope st) .none kV doc pm an cdv ct), osl⟩) (c : PySem.W.codeIn K cdv qual = true) (k : PySem.W.keepIn K (.ref f) = true) : EqIn K mg C qual st cls := ⟨Ca, f, _, h1, h3, h4, h5, h6, first_known, h8, fun_mk l c k⟩
end
/-- the script, as it is handed in -/
def spScript (K : PySem.W.Frag) : Sp := fun vs H Q _ => ∃ (a : Addr) (ns : List Int), vs = [.ref a] ∧ SqL K H a (ns.map V.int) ∧ ns.length ≤ 63 ∧ (∀ z ∈ ns, Builtin.Int.intBits z ≤ 1048576) ∧ ∀ H', Q (.bl true) H'
def g0 : G := ⟨0, fun _ => none⟩
theorem sim0 {c : Gm} {H : Hp} : Sim c ⟨H, fun _ => 0, 0⟩ ⟨[], g0⟩ [] H where
  n := rfl
  fz := fun a o e => e
  cell := fun r x e => by cases e
  inj := fun r r' x x' e => by cases e
  len := rfl
  val := fun i d e => by simp at e
  own := fun i x e => by simp at e
  ownInj := fun i j x y p e => by simp at e
/-- what is left to be shown of a law: its mirror's answer -/
def LawOk (f : F) : Prop := ∀ ns : List Int, ns.length ≤ 63 → (∀ z ∈ ns, Builtin.Int.intBits z ≤ 1048576) → ∃ S', f [.scr ns] ⟨[], g0⟩ = .ok (.bl true) S'
theorem script_of {K : PySem.W.Frag} {mg : Str → Option Value} {f : F} (h : LawOk f) : ∀ vs H Q E, spScript K vs H Q E → spM (gmOf K mg) 1 f vs H Q E := by
  rintro vs H Q E ⟨a, ns, rfl, hs, hl, hb, q⟩
  obtain ⟨S', e⟩ := h ns hl hb
  refine ⟨rfl, ⟨H, fun _ => 0, 0⟩, g0, [.scr ns], sim0, .cons (by simp only [Rep]; exact ⟨a, rfl, hs⟩) .nil, ?_⟩
  rw [e]
  intro w' H' _ _ v r
  rw [rep_bl r]
  exact q H'
theorem end_of {l : PySem.W.OpenLaw} {k : Nat} {q : Program} {loose : List Str} {XP : (Str → Option Value) → Heap → Prop} {YP : World → Heap → Prop} {d : DefRec} {K : Params → PySem.W.Frag} {x y : Str} {st : Stmt} {f : F}
    (hn : l.most = some 63) (hdf : d.params.defaults = []) (hx : d.name = x) (hr : Room k PySem.callerA)
    (hY : ∀ (w : World) (h : Heap), YP w h → (K w.params).In h)
    (hbd : ∀ (kV doc pm : Value) (an : Option Addr) (cdv ct : Value) (u : Value), bindArgs (PySem.W.fnOf x x (defArgs st) (defBody st) (defScope st) .none kV doc pm an cdv ct) ⟨[u], []⟩ = pure [(y, u)])
    (D : ∀ (w : World) (mg : Str → Option Value) (h : Heap), (K w.params).In h → h.Ns mainGlobals mg → DefIn (K w.params) mg x st ∧ ∀ base : Heap, FnM l.prog w (K w.params) mg base k x st [y] f)
    (hp : LawOk f) : PySem.W.WalkO q loose XP YP l.row.toRowW d [] (fun f vs => PySem.call f vs) := by
  refine L2.walk_ofB (n := 63) (k := k) (x := y) (CX := fun w => L2.CX l.prog w) (sp := fun w => spScript (K w.params)) hn (by decide) hdf hr hY (fun w mg fa h KX G hfa => ?_) (fun w H a ns hl hb _ hS => ⟨a, ns, rfl, hS, hl, hb, fun _ => rfl⟩) (fun w H s e s' z => ?_)
  · obtain ⟨⟨fa', fd, hm, F⟩, hF⟩ := D w mg h KX G
    rw [hx] at hfa
    have e : fa' = fa := by rw [hfa] at hm; cases hm; rfl
    subst e
    refine ⟨fd, fun s u => ?_, fun base KB GB => ?_⟩
    · obtain ⟨oc, od, kV, doc, pm, an, cdv, ct, osl, rfl, lk, hcd⟩ := F.ex
      exact .of_eq (hbd kV doc pm an cdv ct u)
    · obtain ⟨fb, fd', ok, hm', _, _, F'⟩ := (hF base).ex
      have e : fb = fa' := by rw [hm] at hm'; cases hm'; rfl
      subst e
      obtain ⟨_, _, _, _, _, _, _, _, _, _, lk, _⟩ := F.ex
      obtain ⟨_, _, _, _, _, _, _, _, _, _, lk', _⟩ := F'.ex
      have e2 : fd = fd' := by
        rw [lk] at lk'
        injection lk' with z
        injection z with _ _ z _
        injection z
      subst e2
      exact ok.imp (script_of hp)
  · obtain ⟨_, _, _, _, _, _, _, _, _, _, _, _, z⟩ := z
    exact z.elim
end Mm
end

section
/-! MmS: runs that go well: how a mirror is run. -/
namespace Mm
open PySem L2

/-- the run ends well, with this -/
inductive Ok {α : Type} (r : R α) (Q : α → Sg → Prop) : Prop
  | mk (a : α) (S : Sg) (e : r = .ok a S) (q : Q a S) : Ok r Q
section
variable {α β : Type} {r : R α} {m : M α} {k : α → M β} {S : Sg} {sl : List Slot} {g : G} {Q : α → Sg → Prop} {Q' : β → Sg → Prop} {d x y : D} {i j : Int}
theorem Ok.imp {Q2 : α → Sg → Prop} (h : Ok r Q) (f : ∀ a S, Q a S → Q2 a S) : Ok r Q2 := by
  obtain ⟨a, S, e, q⟩ := h
  exact ⟨a, S, e, f a S q⟩
theorem Ok.get (h : Ok r Q) : ∃ a S, r = .ok a S ∧ Q a S := by
  obtain ⟨a, S, e, q⟩ := h
  exact ⟨a, S, e, q⟩
@[simp] theorem ok_ok {a : α} : Ok (.ok a S) Q ↔ Q a S := ⟨fun ⟨_, _, e, q⟩ => by cases e; exact q, fun q => ⟨_, _, rfl, q⟩⟩
@[simp] theorem ok_stuck : Ok (.stuck : R α) Q ↔ False := ⟨fun h => by obtain ⟨_, _, e, _⟩ := h; exact absurd e (fun z => by cases z), fun h => False.elim h⟩
@[simp] theorem ok_exc {C : Str} {fs : List (Str × D)} : Ok (.exc C fs S : R α) Q ↔ False := ⟨fun h => by obtain ⟨_, _, e, _⟩ := h; exact absurd e (fun z => by cases z), fun h => False.elim h⟩
@[simp] theorem ok_bind {k : α → Sg → R β} : Ok (r.bind k) Q' ↔ Ok r fun a S1 => Ok (k a S1) Q' := by cases r <;> (first | exact Iff.rfl | exact ok_ok | exact ok_stuck | exact ok_exc | exact ⟨fun h => ok_ok.mpr h, fun h => ok_ok.mp h⟩ | exact ⟨fun h => by have h' := ok_ok.mp h; exact ok_ok.mpr h', fun h => by have h' := ok_ok.mp h; exact ok_ok.mpr h'⟩ | exact ⟨fun h => (ok_exc.mp h).elim, fun h => (ok_exc.mp h).elim⟩ | exact ⟨fun h => (ok_stuck.mp h).elim, fun h => (ok_stuck.mp h).elim⟩ | exact ⟨fun h => (ok_stuck.mp h).elim, fun h => (ok_ok.mp h).elim⟩)
@[simp] theorem ok_bd : Ok (bd m k S) Q' ↔ Ok (m S) fun a S1 => Ok (k a S1) Q' := ok_bind
@[simp] theorem ok_ret {a : α} : Ok (ret a S) Q ↔ Q a S := ok_ok
@[simp] theorem ok_nope : Ok (nope S : R α) Q ↔ False := ok_stuck
@[simp] theorem ok_ite {c : Prop} [Decidable c] {r1 r2 : R α} : Ok (if c then r1 else r2) Q ↔ (c → Ok r1 Q) ∧ (¬ c → Ok r2 Q) := by
  by_cases h : c <;> simp [h]
@[simp] theorem ok_iteM {c : Prop} [Decidable c] {m1 m2 : M α} : Ok ((if c then m1 else m2) S) Q ↔ (c → Ok (m1 S) Q) ∧ (¬ c → Ok (m2 S) Q) := by
  by_cases h : c <;> simp [h]
theorem ok_and {p q : Prop} (h1 : p) (h2 : q) : p ∧ q := ⟨h1, h2⟩
/-! ### names -/
@[simp] theorem st_mk {i : Nat} {x : Slot} : Sg.st ⟨sl, g⟩ i x = ⟨sl.set i x, g⟩ := rfl
@[simp] theorem up_mk {g' : G} : Sg.up ⟨sl, g⟩ g' = ⟨sl, g'⟩ := rfl
theorem ok_rd {Q : D → Sg → Prop} {i : Nat} : Ok (rd i ⟨sl, g⟩) Q ↔ match sl[i]? with
  | some (.val d) => Q d ⟨sl, g⟩
  | some (.own (.lst xs)) => Q (.lst xs) ⟨sl.set i (.val (.lst xs)), g⟩
  | _ => False := by
  unfold rd
  show Ok (match sl[i]? with | some (.val d) => .ok d ⟨sl, g⟩ | some (.own (.lst xs)) => .ok (.lst xs) (Sg.st ⟨sl, g⟩ i (.val (.lst xs))) | _ => .stuck) Q ↔ _
  cases sl[i]? with
  | none => (first | exact Iff.rfl | exact ok_ok | exact ok_stuck | exact ok_exc | exact ⟨fun h => ok_ok.mpr h, fun h => ok_ok.mp h⟩ | exact ⟨fun h => by have h' := ok_ok.mp h; exact ok_ok.mpr h', fun h => by have h' := ok_ok.mp h; exact ok_ok.mpr h'⟩ | exact ⟨fun h => (ok_exc.mp h).elim, fun h => (ok_exc.mp h).elim⟩ | exact ⟨fun h => (ok_stuck.mp h).elim, fun h => (ok_stuck.mp h).elim⟩ | exact ⟨fun h => (ok_stuck.mp h).elim, fun h => (ok_ok.mp h).elim⟩)
  | some z =>
    cases z with
    | emp => (first | exact Iff.rfl | exact ok_ok | exact ok_stuck | exact ok_exc | exact ⟨fun h => ok_ok.mpr h, fun h => ok_ok.mp h⟩ | exact ⟨fun h => by have h' := ok_ok.mp h; exact ok_ok.mpr h', fun h => by have h' := ok_ok.mp h; exact ok_ok.mpr h'⟩ | exact ⟨fun h => (ok_exc.mp h).elim, fun h => (ok_exc.mp h).elim⟩ | exact ⟨fun h => (ok_stuck.mp h).elim, fun h => (ok_stuck.mp h).elim⟩ | exact ⟨fun h => (ok_stuck.mp h).elim, fun h => (ok_ok.mp h).elim⟩)
    | val d => (first | exact Iff.rfl | exact ok_ok | exact ok_stuck | exact ok_exc | exact ⟨fun h => ok_ok.mpr h, fun h => ok_ok.mp h⟩ | exact ⟨fun h => by have h' := ok_ok.mp h; exact ok_ok.mpr h', fun h => by have h' := ok_ok.mp h; exact ok_ok.mpr h'⟩ | exact ⟨fun h => (ok_exc.mp h).elim, fun h => (ok_exc.mp h).elim⟩ | exact ⟨fun h => (ok_stuck.mp h).elim, fun h => (ok_stuck.mp h).elim⟩ | exact ⟨fun h => (ok_stuck.mp h).elim, fun h => (ok_ok.mp h).elim⟩)
    | own c => cases c <;> (first | exact Iff.rfl | exact ok_ok | exact ok_stuck | exact ok_exc | exact ⟨fun h => ok_ok.mpr h, fun h => ok_ok.mp h⟩ | exact ⟨fun h => by have h' := ok_ok.mp h; exact ok_ok.mpr h', fun h => by have h' := ok_ok.mp h; exact ok_ok.mpr h'⟩ | exact ⟨fun h => (ok_exc.mp h).elim, fun h => (ok_exc.mp h).elim⟩ | exact ⟨fun h => (ok_stuck.mp h).elim, fun h => (ok_stuck.mp h).elim⟩ | exact ⟨fun h => (ok_stuck.mp h).elim, fun h => (ok_ok.mp h).elim⟩)
theorem ok_hdN {Q : Hd → Sg → Prop} {i : Nat} : Ok (hdN i ⟨sl, g⟩) Q ↔ match sl[i]? with
  | some (.val d) => Q (.d d) ⟨sl, g⟩
  | some (.own (.lst _)) => Q (.sl i) ⟨sl, g⟩
  | _ => False := by
  unfold hdN
  show Ok (match sl[i]? with | some (.val d) => .ok (.d d) ⟨sl, g⟩ | some (.own (.lst _)) => .ok (.sl i) ⟨sl, g⟩ | _ => .stuck) Q ↔ _
  cases sl[i]? with
  | none => (first | exact Iff.rfl | exact ok_ok | exact ok_stuck | exact ok_exc | exact ⟨fun h => ok_ok.mpr h, fun h => ok_ok.mp h⟩ | exact ⟨fun h => by have h' := ok_ok.mp h; exact ok_ok.mpr h', fun h => by have h' := ok_ok.mp h; exact ok_ok.mpr h'⟩ | exact ⟨fun h => (ok_exc.mp h).elim, fun h => (ok_exc.mp h).elim⟩ | exact ⟨fun h => (ok_stuck.mp h).elim, fun h => (ok_stuck.mp h).elim⟩ | exact ⟨fun h => (ok_stuck.mp h).elim, fun h => (ok_ok.mp h).elim⟩)
  | some z =>
    cases z with
    | emp => (first | exact Iff.rfl | exact ok_ok | exact ok_stuck | exact ok_exc | exact ⟨fun h => ok_ok.mpr h, fun h => ok_ok.mp h⟩ | exact ⟨fun h => by have h' := ok_ok.mp h; exact ok_ok.mpr h', fun h => by have h' := ok_ok.mp h; exact ok_ok.mpr h'⟩ | exact ⟨fun h => (ok_exc.mp h).elim, fun h => (ok_exc.mp h).elim⟩ | exact ⟨fun h => (ok_stuck.mp h).elim, fun h => (ok_stuck.mp h).elim⟩ | exact ⟨fun h => (ok_stuck.mp h).elim, fun h => (ok_ok.mp h).elim⟩)
    | val d => (first | exact Iff.rfl | exact ok_ok | exact ok_stuck | exact ok_exc | exact ⟨fun h => ok_ok.mpr h, fun h => ok_ok.mp h⟩ | exact ⟨fun h => by have h' := ok_ok.mp h; exact ok_ok.mpr h', fun h => by have h' := ok_ok.mp h; exact ok_ok.mpr h'⟩ | exact ⟨fun h => (ok_exc.mp h).elim, fun h => (ok_exc.mp h).elim⟩ | exact ⟨fun h => (ok_stuck.mp h).elim, fun h => (ok_stuck.mp h).elim⟩ | exact ⟨fun h => (ok_stuck.mp h).elim, fun h => (ok_ok.mp h).elim⟩)
    | own c => cases c <;> (first | exact Iff.rfl | exact ok_ok | exact ok_stuck | exact ok_exc | exact ⟨fun h => ok_ok.mpr h, fun h => ok_ok.mp h⟩ | exact ⟨fun h => by have h' := ok_ok.mp h; exact ok_ok.mpr h', fun h => by have h' := ok_ok.mp h; exact ok_ok.mpr h'⟩ | exact ⟨fun h => (ok_exc.mp h).elim, fun h => (ok_exc.mp h).elim⟩ | exact ⟨fun h => (ok_stuck.mp h).elim, fun h => (ok_stuck.mp h).elim⟩ | exact ⟨fun h => (ok_stuck.mp h).elim, fun h => (ok_ok.mp h).elim⟩)
theorem ok_plN {Q : Pl → Sg → Prop} {i : Nat} : Ok (plN i ⟨sl, g⟩) Q ↔ match sl[i]? with
  | some (.val (.box r)) => Q (.bx r) ⟨sl, g⟩
  | some (.own _) => Q (.sl i) ⟨sl, g⟩
  | _ => False := by
  unfold plN
  show Ok (match sl[i]? with | some (.val (.box r)) => .ok (.bx r) ⟨sl, g⟩ | some (.own _) => .ok (.sl i) ⟨sl, g⟩ | _ => .stuck) Q ↔ _
  cases sl[i]? with
  | none => (first | exact Iff.rfl | exact ok_ok | exact ok_stuck | exact ok_exc | exact ⟨fun h => ok_ok.mpr h, fun h => ok_ok.mp h⟩ | exact ⟨fun h => by have h' := ok_ok.mp h; exact ok_ok.mpr h', fun h => by have h' := ok_ok.mp h; exact ok_ok.mpr h'⟩ | exact ⟨fun h => (ok_exc.mp h).elim, fun h => (ok_exc.mp h).elim⟩ | exact ⟨fun h => (ok_stuck.mp h).elim, fun h => (ok_stuck.mp h).elim⟩ | exact ⟨fun h => (ok_stuck.mp h).elim, fun h => (ok_ok.mp h).elim⟩)
  | some z =>
    cases z with
    | emp => (first | exact Iff.rfl | exact ok_ok | exact ok_stuck | exact ok_exc | exact ⟨fun h => ok_ok.mpr h, fun h => ok_ok.mp h⟩ | exact ⟨fun h => by have h' := ok_ok.mp h; exact ok_ok.mpr h', fun h => by have h' := ok_ok.mp h; exact ok_ok.mpr h'⟩ | exact ⟨fun h => (ok_exc.mp h).elim, fun h => (ok_exc.mp h).elim⟩ | exact ⟨fun h => (ok_stuck.mp h).elim, fun h => (ok_stuck.mp h).elim⟩ | exact ⟨fun h => (ok_stuck.mp h).elim, fun h => (ok_ok.mp h).elim⟩)
    | val d => cases d <;> (first | exact Iff.rfl | exact ok_ok | exact ok_stuck | exact ok_exc | exact ⟨fun h => ok_ok.mpr h, fun h => ok_ok.mp h⟩ | exact ⟨fun h => by have h' := ok_ok.mp h; exact ok_ok.mpr h', fun h => by have h' := ok_ok.mp h; exact ok_ok.mpr h'⟩ | exact ⟨fun h => (ok_exc.mp h).elim, fun h => (ok_exc.mp h).elim⟩ | exact ⟨fun h => (ok_stuck.mp h).elim, fun h => (ok_stuck.mp h).elim⟩ | exact ⟨fun h => (ok_stuck.mp h).elim, fun h => (ok_ok.mp h).elim⟩)
    | own c => cases c <;> (first | exact Iff.rfl | exact ok_ok | exact ok_stuck | exact ok_exc | exact ⟨fun h => ok_ok.mpr h, fun h => ok_ok.mp h⟩ | exact ⟨fun h => by have h' := ok_ok.mp h; exact ok_ok.mpr h', fun h => by have h' := ok_ok.mp h; exact ok_ok.mpr h'⟩ | exact ⟨fun h => (ok_exc.mp h).elim, fun h => (ok_exc.mp h).elim⟩ | exact ⟨fun h => (ok_stuck.mp h).elim, fun h => (ok_stuck.mp h).elim⟩ | exact ⟨fun h => (ok_stuck.mp h).elim, fun h => (ok_ok.mp h).elim⟩)
theorem ok_rdB {Q : D → Sg → Prop} {i : Nat} : Ok (rdB i ⟨sl, g⟩) Q ↔ match sl[i]? with
  | some (.own x) => Q (.box g.nx) ⟨sl.set i (.val (.box g.nx)), g.add x⟩
  | some (.val (.box r)) => Q (.box r) ⟨sl, g⟩
  | _ => False := by
  unfold rdB
  show Ok (match sl[i]? with | some (.own x) => .ok (.box g.nx) (Sg.up (Sg.st ⟨sl, g⟩ i (.val (.box g.nx))) (g.add x)) | some (.val (.box r)) => .ok (.box r) ⟨sl, g⟩ | _ => .stuck) Q ↔ _
  cases sl[i]? with
  | none => (first | exact Iff.rfl | exact ok_ok | exact ok_stuck | exact ok_exc | exact ⟨fun h => ok_ok.mpr h, fun h => ok_ok.mp h⟩ | exact ⟨fun h => by have h' := ok_ok.mp h; exact ok_ok.mpr h', fun h => by have h' := ok_ok.mp h; exact ok_ok.mpr h'⟩ | exact ⟨fun h => (ok_exc.mp h).elim, fun h => (ok_exc.mp h).elim⟩ | exact ⟨fun h => (ok_stuck.mp h).elim, fun h => (ok_stuck.mp h).elim⟩ | exact ⟨fun h => (ok_stuck.mp h).elim, fun h => (ok_ok.mp h).elim⟩)
  | some z =>
    cases z with
    | emp => (first | exact Iff.rfl | exact ok_ok | exact ok_stuck | exact ok_exc | exact ⟨fun h => ok_ok.mpr h, fun h => ok_ok.mp h⟩ | exact ⟨fun h => by have h' := ok_ok.mp h; exact ok_ok.mpr h', fun h => by have h' := ok_ok.mp h; exact ok_ok.mpr h'⟩ | exact ⟨fun h => (ok_exc.mp h).elim, fun h => (ok_exc.mp h).elim⟩ | exact ⟨fun h => (ok_stuck.mp h).elim, fun h => (ok_stuck.mp h).elim⟩ | exact ⟨fun h => (ok_stuck.mp h).elim, fun h => (ok_ok.mp h).elim⟩)
    | val d => cases d <;> (first | exact Iff.rfl | exact ok_ok | exact ok_stuck | exact ok_exc | exact ⟨fun h => ok_ok.mpr h, fun h => ok_ok.mp h⟩ | exact ⟨fun h => by have h' := ok_ok.mp h; exact ok_ok.mpr h', fun h => by have h' := ok_ok.mp h; exact ok_ok.mpr h'⟩ | exact ⟨fun h => (ok_exc.mp h).elim, fun h => (ok_exc.mp h).elim⟩ | exact ⟨fun h => (ok_stuck.mp h).elim, fun h => (ok_stuck.mp h).elim⟩ | exact ⟨fun h => (ok_stuck.mp h).elim, fun h => (ok_ok.mp h).elim⟩)
    | own c => (first | exact Iff.rfl | exact ok_ok | exact ok_stuck | exact ok_exc | exact ⟨fun h => ok_ok.mpr h, fun h => ok_ok.mp h⟩ | exact ⟨fun h => by have h' := ok_ok.mp h; exact ok_ok.mpr h', fun h => by have h' := ok_ok.mp h; exact ok_ok.mpr h'⟩ | exact ⟨fun h => (ok_exc.mp h).elim, fun h => (ok_exc.mp h).elim⟩ | exact ⟨fun h => (ok_stuck.mp h).elim, fun h => (ok_stuck.mp h).elim⟩ | exact ⟨fun h => (ok_stuck.mp h).elim, fun h => (ok_ok.mp h).elim⟩)
/-! ### calls, defs -/
theorem ok_callM {Q : D → Sg → Prop} {f : F} {ms : M (List D)} : Ok (callM f ms S) Q ↔ Ok (ms S) fun ds S1 => Ok (f ds ⟨[], S1.g⟩) fun d S2 => Q d ⟨S1.sl, S2.g⟩ := by
  unfold callM
  rw [ok_bd]
  have e : ∀ ds S1, Ok (inF (f ds) S1) Q ↔ Ok (f ds ⟨[], S1.g⟩) fun d S2 => Q d ⟨S1.sl, S2.g⟩ := fun ds S1 => by
    unfold inF
    cases f ds ⟨[], S1.g⟩ <;> (first | exact Iff.rfl | exact ok_ok | exact ok_stuck | exact ok_exc | exact ⟨fun h => ok_ok.mpr h, fun h => ok_ok.mp h⟩ | exact ⟨fun h => by have h' := ok_ok.mp h; exact ok_ok.mpr h', fun h => by have h' := ok_ok.mp h; exact ok_ok.mpr h'⟩ | exact ⟨fun h => (ok_exc.mp h).elim, fun h => (ok_exc.mp h).elim⟩ | exact ⟨fun h => (ok_stuck.mp h).elim, fun h => (ok_stuck.mp h).elim⟩ | exact ⟨fun h => (ok_stuck.mp h).elim, fun h => (ok_ok.mp h).elim⟩)
  simp only [e]
theorem ok_inF {Q : D → Sg → Prop} {f : M D} : Ok (inF f S) Q ↔ Ok (f ⟨[], S.g⟩) fun d S2 => Q d ⟨S.sl, S2.g⟩ := by
  unfold inF
  cases f ⟨[], S.g⟩ <;> (first | exact Iff.rfl | exact ok_ok | exact ok_stuck | exact ok_exc | exact ⟨fun h => ok_ok.mpr h, fun h => ok_ok.mp h⟩ | exact ⟨fun h => by have h' := ok_ok.mp h; exact ok_ok.mpr h', fun h => by have h' := ok_ok.mp h; exact ok_ok.mpr h'⟩ | exact ⟨fun h => (ok_exc.mp h).elim, fun h => (ok_exc.mp h).elim⟩ | exact ⟨fun h => (ok_stuck.mp h).elim, fun h => (ok_stuck.mp h).elim⟩ | exact ⟨fun h => (ok_stuck.mp h).elim, fun h => (ok_ok.mp h).elim⟩)
def endQ (Q : D → Sg → Prop) : Fl → Sg → Prop
  | .nx, S => Q .non ⟨[], S.g⟩
  | .rt d, S => Q d ⟨[], S.g⟩
  | _, _ => False
@[simp] theorem endQ_nx {Q : D → Sg → Prop} : endQ Q .nx S ↔ Q .non ⟨[], S.g⟩ := Iff.rfl
@[simp] theorem endQ_rt {Q : D → Sg → Prop} : endQ Q (.rt d) S ↔ Q d ⟨[], S.g⟩ := Iff.rfl
theorem ok_runF {Q : D → Sg → Prop} {n : Nat} {b : M Fl} {ds : List D} : Ok (runF n b ds ⟨[], g⟩) Q ↔ Ok (b ⟨slots n ds, g⟩) (endQ Q) := by
  unfold runF
  show Ok (finR (b ⟨slots n ds, g⟩)) Q ↔ _
  cases b ⟨slots n ds, g⟩ with
  | ok f S' => cases f <;> (first | exact Iff.rfl | exact ok_ok | exact ok_stuck | exact ok_exc | exact ⟨fun h => ok_ok.mpr h, fun h => ok_ok.mp h⟩ | exact ⟨fun h => by have h' := ok_ok.mp h; exact ok_ok.mpr h', fun h => by have h' := ok_ok.mp h; exact ok_ok.mpr h'⟩ | exact ⟨fun h => (ok_exc.mp h).elim, fun h => (ok_exc.mp h).elim⟩ | exact ⟨fun h => (ok_stuck.mp h).elim, fun h => (ok_stuck.mp h).elim⟩ | exact ⟨fun h => (ok_stuck.mp h).elim, fun h => (ok_ok.mp h).elim⟩)
  | exc _ _ _ => (first | exact Iff.rfl | exact ok_ok | exact ok_stuck | exact ok_exc | exact ⟨fun h => ok_ok.mpr h, fun h => ok_ok.mp h⟩ | exact ⟨fun h => by have h' := ok_ok.mp h; exact ok_ok.mpr h', fun h => by have h' := ok_ok.mp h; exact ok_ok.mpr h'⟩ | exact ⟨fun h => (ok_exc.mp h).elim, fun h => (ok_exc.mp h).elim⟩ | exact ⟨fun h => (ok_stuck.mp h).elim, fun h => (ok_stuck.mp h).elim⟩ | exact ⟨fun h => (ok_stuck.mp h).elim, fun h => (ok_ok.mp h).elim⟩)
  | stuck => (first | exact Iff.rfl | exact ok_ok | exact ok_stuck | exact ok_exc | exact ⟨fun h => ok_ok.mpr h, fun h => ok_ok.mp h⟩ | exact ⟨fun h => by have h' := ok_ok.mp h; exact ok_ok.mpr h', fun h => by have h' := ok_ok.mp h; exact ok_ok.mpr h'⟩ | exact ⟨fun h => (ok_exc.mp h).elim, fun h => (ok_exc.mp h).elim⟩ | exact ⟨fun h => (ok_stuck.mp h).elim, fun h => (ok_stuck.mp h).elim⟩ | exact ⟨fun h => (ok_stuck.mp h).elim, fun h => (ok_ok.mp h).elim⟩)
@[simp] theorem ok_nilM {Q : List D → Sg → Prop} : Ok (nilM S) Q ↔ Q [] S := ok_ok
@[simp] theorem ok_consM {Q : List D → Sg → Prop} {m : M D} {ms : M (List D)} : Ok (consM m ms S) Q ↔ Ok (m S) fun d S1 => Ok (ms S1) fun ds S2 => Q (d :: ds) S2 := by
  unfold consM
  simp only [ok_bd, ok_ret]
/-! ### statements -/
def seqQ (b : M Fl) (Q : Fl → Sg → Prop) : Fl → Sg → Prop
  | .nx, S => Ok (b S) Q
  | f, S => Q f S
@[simp] theorem seqQ_nx {b : M Fl} {Q : Fl → Sg → Prop} : seqQ b Q .nx S ↔ Ok (b S) Q := Iff.rfl
@[simp] theorem seqQ_rt {b : M Fl} {Q : Fl → Sg → Prop} : seqQ b Q (.rt d) S ↔ Q (.rt d) S := Iff.rfl
@[simp] theorem seqQ_bk {b : M Fl} {Q : Fl → Sg → Prop} : seqQ b Q .bk S ↔ Q .bk S := Iff.rfl
@[simp] theorem seqQ_ct {b : M Fl} {Q : Fl → Sg → Prop} : seqQ b Q .ct S ↔ Q .ct S := Iff.rfl
theorem ok_seqM {a b : M Fl} {Q : Fl → Sg → Prop} : Ok (seqM a b S) Q ↔ Ok (a S) (seqQ b Q) := by
  unfold seqM bd
  cases a S with
  | ok f S1 => cases f <;> (first | exact Iff.rfl | exact ok_ok | exact ok_stuck | exact ok_exc | exact ⟨fun h => ok_ok.mpr h, fun h => ok_ok.mp h⟩ | exact ⟨fun h => by have h' := ok_ok.mp h; exact ok_ok.mpr h', fun h => by have h' := ok_ok.mp h; exact ok_ok.mpr h'⟩ | exact ⟨fun h => (ok_exc.mp h).elim, fun h => (ok_exc.mp h).elim⟩ | exact ⟨fun h => (ok_stuck.mp h).elim, fun h => (ok_stuck.mp h).elim⟩ | exact ⟨fun h => (ok_stuck.mp h).elim, fun h => (ok_ok.mp h).elim⟩)
  | exc _ _ _ => (first | exact Iff.rfl | exact ok_ok | exact ok_stuck | exact ok_exc | exact ⟨fun h => ok_ok.mpr h, fun h => ok_ok.mp h⟩ | exact ⟨fun h => by have h' := ok_ok.mp h; exact ok_ok.mpr h', fun h => by have h' := ok_ok.mp h; exact ok_ok.mpr h'⟩ | exact ⟨fun h => (ok_exc.mp h).elim, fun h => (ok_exc.mp h).elim⟩ | exact ⟨fun h => (ok_stuck.mp h).elim, fun h => (ok_stuck.mp h).elim⟩ | exact ⟨fun h => (ok_stuck.mp h).elim, fun h => (ok_ok.mp h).elim⟩)
  | stuck => (first | exact Iff.rfl | exact ok_ok | exact ok_stuck | exact ok_exc | exact ⟨fun h => ok_ok.mpr h, fun h => ok_ok.mp h⟩ | exact ⟨fun h => by have h' := ok_ok.mp h; exact ok_ok.mpr h', fun h => by have h' := ok_ok.mp h; exact ok_ok.mpr h'⟩ | exact ⟨fun h => (ok_exc.mp h).elim, fun h => (ok_exc.mp h).elim⟩ | exact ⟨fun h => (ok_stuck.mp h).elim, fun h => (ok_stuck.mp h).elim⟩ | exact ⟨fun h => (ok_stuck.mp h).elim, fun h => (ok_ok.mp h).elim⟩)
@[simp] theorem ok_setM {i : Nat} {m : M D} {Q : Fl → Sg → Prop} : Ok (setM i m S) Q ↔ Ok (m S) fun d S1 => Q .nx (S1.st i (.val d)) := by unfold setM; simp only [ok_bd, ok_ok]
@[simp] theorem ok_ownM {i : Nat} {m : M Cell} {Q : Fl → Sg → Prop} : Ok (ownM i m S) Q ↔ Ok (m S) fun x S1 => Q .nx (S1.st i (.own x)) := by unfold ownM; simp only [ok_bd, ok_ok]
@[simp] theorem ok_retM {m : M D} {Q : Fl → Sg → Prop} : Ok (retM m S) Q ↔ Ok (m S) fun d S1 => Q (.rt d) S1 := by unfold retM; simp only [ok_bd, ok_ret]
@[simp] theorem ok_exprM {m : M D} {Q : Fl → Sg → Prop} : Ok (exprM m S) Q ↔ Ok (m S) fun d S1 => Q .nx S1 := by unfold exprM; simp only [ok_bd, ok_ret]
theorem ok_ifM {t : M Bool} {a b : M α} : Ok (ifM t a b S) Q ↔ Ok (t S) fun k S1 => if k = true then Ok (a S1) Q else Ok (b S1) Q := by
  unfold ifM
  rw [ok_bd]
  have e : ∀ (k : Bool) (S1 : Sg), Ok ((if k = true then a else b) S1) Q ↔ if k = true then Ok (a S1) Q else Ok (b S1) Q := fun k S1 => by cases k <;> (first | exact Iff.rfl | exact ok_ok | exact ok_stuck | exact ok_exc | exact ⟨fun h => ok_ok.mpr h, fun h => ok_ok.mp h⟩ | exact ⟨fun h => by have h' := ok_ok.mp h; exact ok_ok.mpr h', fun h => by have h' := ok_ok.mp h; exact ok_ok.mpr h'⟩ | exact ⟨fun h => (ok_exc.mp h).elim, fun h => (ok_exc.mp h).elim⟩ | exact ⟨fun h => (ok_stuck.mp h).elim, fun h => (ok_stuck.mp h).elim⟩ | exact ⟨fun h => (ok_stuck.mp h).elim, fun h => (ok_ok.mp h).elim⟩)
  simp only [e]
@[simp] theorem ok_asB {Q : Bool → Sg → Prop} {b : Bool} : Ok (asB (.bl b) S) Q ↔ Q b S := ok_ok
@[simp] theorem ok_iop {Q : D → Sg → Prop} {f : Int → Int → M D} : Ok (iop f (.int i) (.int j) S) Q ↔ Ok (f i j S) Q := Iff.rfl
@[simp] theorem ok_addI {Q : D → Sg → Prop} : Ok (addI (.int i) (.int j) S) Q ↔ Q (.int (i + j)) S := ok_ok
@[simp] theorem ok_subI {Q : D → Sg → Prop} : Ok (subI (.int i) (.int j) S) Q ↔ Q (.int (i - j)) S := ok_ok
theorem ok_guard {c : Prop} [Decidable c] {a : α} : Ok ((if c then ret a else nope : M α) S) Q ↔ c ∧ Q a S := by
  by_cases h : c <;> simp [h]
@[simp] theorem ok_mulI {Q : D → Sg → Prop} : Ok (mulI (.int i) (.int j) S) Q ↔ CMulW i j ∧ Q (.int (i * j)) S := ok_guard
@[simp] theorem ok_divI {Q : D → Sg → Prop} : Ok (divI (.int i) (.int j) S) Q ↔ CDivW i j ∧ Q (.int (i / j)) S := ok_guard
@[simp] theorem ok_modI {Q : D → Sg → Prop} : Ok (modI (.int i) (.int j) S) Q ↔ 0 < j ∧ Q (.int (i % j)) S := ok_guard
@[simp] theorem ok_powI {Q : D → Sg → Prop} : Ok (powI (.int i) (.int j) S) Q ↔ CPow i j ∧ Q (.int (i ^ j.toNat)) S := ok_guard
@[simp] theorem ok_ltI {Q : D → Sg → Prop} : Ok (ltI (.int i) (.int j) S) Q ↔ Q (.bl (decide (i < j))) S := ok_ok
@[simp] theorem ok_leI {Q : D → Sg → Prop} : Ok (leI (.int i) (.int j) S) Q ↔ Q (.bl (decide (i ≤ j))) S := ok_ok
@[simp] theorem ok_gtI {Q : D → Sg → Prop} : Ok (gtI (.int i) (.int j) S) Q ↔ Q (.bl (decide (j < i))) S := ok_ok
@[simp] theorem ok_geI {Q : D → Sg → Prop} : Ok (geI (.int i) (.int j) S) Q ↔ Q (.bl (decide (j ≤ i))) S := ok_ok
@[simp] theorem ok_bop {Q : D → Sg → Prop} {f : D → D → M D} {a b : M D} : Ok (bop f a b S) Q ↔ Ok (a S) fun x S1 => Ok (b S1) fun y S2 => Ok (f x y S2) Q := by unfold bop; simp only [ok_bd]
@[simp] theorem ok_bopT {Q : Bool → Sg → Prop} {f : D → D → M D} {a b : M D} : Ok (bopT f a b S) Q ↔ Ok (a S) fun x S1 => Ok (b S1) fun y S2 => Ok (f x y S2) fun z S3 => Ok (asB z S3) Q := by unfold bopT; simp only [ok_bd, ok_bop]
theorem ok_notM {m : M Bool} {Q : Bool → Sg → Prop} : Ok (notM m S) Q ↔ Ok (m S) fun b S1 => Q (!b) S1 := by unfold notM; simp only [ok_bd, ok_ret]
theorem ok_andM {a b : M Bool} {Q : Bool → Sg → Prop} : Ok (andM a b S) Q ↔ Ok (a S) fun x S1 => if x = true then Ok (b S1) Q else Q false S1 := by
  unfold andM
  rw [ok_bd]
  have e : ∀ (k : Bool) (S1 : Sg), Ok ((if k = true then b else ret false) S1) Q ↔ if k = true then Ok (b S1) Q else Q false S1 := fun k S1 => by cases k <;> (first | exact Iff.rfl | exact ok_ok | exact ok_stuck | exact ok_exc | exact ⟨fun h => ok_ok.mpr h, fun h => ok_ok.mp h⟩ | exact ⟨fun h => by have h' := ok_ok.mp h; exact ok_ok.mpr h', fun h => by have h' := ok_ok.mp h; exact ok_ok.mpr h'⟩ | exact ⟨fun h => (ok_exc.mp h).elim, fun h => (ok_exc.mp h).elim⟩ | exact ⟨fun h => (ok_stuck.mp h).elim, fun h => (ok_stuck.mp h).elim⟩ | exact ⟨fun h => (ok_stuck.mp h).elim, fun h => (ok_ok.mp h).elim⟩)
  simp only [e]
theorem ok_orM {a b : M Bool} {Q : Bool → Sg → Prop} : Ok (orM a b S) Q ↔ Ok (a S) fun x S1 => if x = true then Q true S1 else Ok (b S1) Q := by
  unfold orM
  rw [ok_bd]
  have e : ∀ (k : Bool) (S1 : Sg), Ok ((if k = true then ret true else b) S1) Q ↔ if k = true then Q true S1 else Ok (b S1) Q := fun k S1 => by cases k <;> (first | exact Iff.rfl | exact ok_ok | exact ok_stuck | exact ok_exc | exact ⟨fun h => ok_ok.mpr h, fun h => ok_ok.mp h⟩ | exact ⟨fun h => by have h' := ok_ok.mp h; exact ok_ok.mpr h', fun h => by have h' := ok_ok.mp h; exact ok_ok.mpr h'⟩ | exact ⟨fun h => (ok_exc.mp h).elim, fun h => (ok_exc.mp h).elim⟩ | exact ⟨fun h => (ok_stuck.mp h).elim, fun h => (ok_stuck.mp h).elim⟩ | exact ⟨fun h => (ok_stuck.mp h).elim, fun h => (ok_ok.mp h).elim⟩)
  simp only [e]
/-! ### walks -/
theorem ok_forM {T : Tg} {b : M Fl} {s : Src} {Q : Fl → Sg → Prop} (I : Nat → Sg → Prop) (hok : ∀ i S, i ≤ s.ds.length → I i S → s.ok S) (h0 : I 0 S)
    (step : ∀ i d S, s.ds[i]? = some d → I i S → ∃ S1, asg T d S = some S1 ∧ Ok (b S1) fun f S2 => match f with | .nx => I (i + 1) S2 | .ct => I (i + 1) S2 | .bk => Q .nx S2 | .rt d => Q (.rt d) S2)
    (fin : ∀ S, I s.ds.length S → Q .nx S) : Ok (forM T b s S) Q := by
  obtain ⟨ds, ok⟩ := s
  show Ok (forG T b ok ds S) Q
  have go : ∀ (n i : Nat) (S : Sg), ds.length - i = n → i ≤ ds.length → I i S → Ok (forG T b ok (ds.drop i) S) Q := by
    intro n
    induction n with
    | zero =>
      intro i S hn hi h
      have e : i = ds.length := by omega
      subst e
      rw [List.drop_length]
      simp only [forG, if_pos (hok _ _ (Nat.le_refl _) h)]
      exact ok_ok.mpr (fin S h)
    | succ n ih =>
      intro i S hn hi h
      have hlt : i < ds.length := by omega
      rw [List.drop_eq_getElem_cons hlt]
      simp only [forG, if_pos (hok _ _ hi h)]
      obtain ⟨S1, e1, h1⟩ := step i ds[i] S (List.getElem?_eq_getElem hlt) h
      simp only [e1]
      rw [ok_bind]
      refine h1.imp fun f S2 h2 => ?_
      cases f with
      | nx => exact ih (i + 1) S2 (by omega) hlt h2
      | ct => exact ih (i + 1) S2 (by omega) hlt h2
      | bk => exact ok_ok.mpr h2
      | rt d => exact ok_ok.mpr h2
  exact go _ 0 S rfl (Nat.zero_le _) h0
theorem ok_whM {t : M Bool} {b : M Fl} {Q : Fl → Sg → Prop} (I : Nat → Sg → Prop) (n : Nat) (h0 : I n S)
    (step : ∀ n S, I n S → Ok (t S) fun k S1 => if k = true then Ok (b S1) fun f S2 => (match f with | .nx => ∃ m, m < n ∧ I m S2 | .ct => ∃ m, m < n ∧ I m S2 | .bk => Q .nx S2 | .rt d => Q (.rt d) S2) else Q .nx S1) : Ok (whM t b S) Q := by
  induction n using Nat.strongRecOn generalizing S with
  | _ n ih =>
    rw [whM_step, ok_bind]
    refine (step n S h0).imp fun k S1 h1 => ?_
    cases k with
    | false => exact ok_ok.mpr h1
    | true =>
      have h1 : Ok (b S1) _ := h1
      show Ok (bd b _ S1) Q
      rw [ok_bd]
      refine h1.imp fun f S2 h2 => ?_
      cases f with
      | nx => obtain ⟨m, hm, hI⟩ := h2; exact ih m hm hI
      | ct => obtain ⟨m, hm, hI⟩ := h2; exact ih m hm hI
      | bk => exact ok_ok.mpr h2
      | rt d => exact ok_ok.mpr h2
end
end Mm
end

section
/-! MmT: how a mirror is run: sequences, places, comprehensions. -/
namespace Mm
open PySem L2
section
variable {α β : Type} {S : Sg} {sl : List Slot} {g : G} {d x y : D} {i j : Int} {xs ys : List D} {r : Nat}
/-- there is one, and of it .. -/
def onO {α : Type} (o : Option α) (p : α → Prop) : Prop := ∃ a, o = some a ∧ p a
@[simp] theorem onO_some {α : Type} {a : α} {p : α → Prop} : onO (some a) p ↔ p a := by simp [onO]
@[simp] theorem onO_none {α : Type} {p : α → Prop} : onO (none : Option α) p ↔ False := by simp [onO]
def onL (o : Option Cell) (p : List D → Prop) : Prop := ∃ xs, o = some (.lst xs) ∧ p xs
@[simp] theorem onL_lst {xs : List D} {p : List D → Prop} : onL (some (.lst xs)) p ↔ p xs := by simp [onL]
theorem onO_iff {α : Type} {o : Option α} {p : α → Prop} : onO o p ↔ ∃ a, o = some a ∧ p a := Iff.rfl
theorem onL_iff {o : Option Cell} {p : List D → Prop} : onL o p ↔ ∃ xs, o = some (.lst xs) ∧ p xs := Iff.rfl
theorem ok_congr {r : R α} {Q1 Q2 : α → Sg → Prop} (h : ∀ a S, Q1 a S ↔ Q2 a S) : Ok r Q1 ↔ Ok r Q2 := ⟨fun q => q.imp fun a S => (h a S).mp, fun q => q.imp fun a S => (h a S).mpr⟩
@[simp] theorem vw_lst : vwH S (.d (.lst xs)) = some (true, xs) := rfl
@[simp] theorem vw_tup : vwH S (.d (.tup xs)) = some (false, xs) := rfl
@[simp] theorem vwD_lst : vwD S (.lst xs) = some (true, xs) := rfl
@[simp] theorem vwD_tup : vwD S (.tup xs) = some (false, xs) := rfl
theorem vw_box (h : S.g.cs r = some (.lst xs)) : vwH S (.d (.box r)) = some (true, xs) := by show vwD S (.box r) = _; unfold vwD; simp only [h]
theorem vwD_box (h : S.g.cs r = some (.lst xs)) : vwD S (.box r) = some (true, xs) := by unfold vwD; simp only [h]
theorem vw_own {n : Nat} (h : sl[n]? = some (.own (.lst xs))) : vwH ⟨sl, g⟩ (.sl n) = some (true, xs) := by unfold vwH; simp only [h]
@[simp] theorem ok_hdE {Q : Hd → Sg → Prop} {m : M D} : Ok (hdE m S) Q ↔ Ok (m S) fun d S1 => Q (.d d) S1 := by unfold hdE; simp only [ok_bd, ok_ret]
theorem ok_see {Q : Vw → Sg → Prop} {h : Hd} {v : Vw} (e : vwH S h = some v) (q : Q v S) : Ok (see h S) Q := by
  unfold see optM
  simp only [e]
  exact ok_ok.mpr q
theorem ok_seeI {Q : Vw → Sg → Prop} {h : Hd} : Ok (see h S) Q ↔ onO (vwH S h) fun v => Q v S := by
  unfold see optM
  cases e : vwH S h with
  | none => simp [Ok]
  | some v => simp [Ok]
@[simp] theorem ok_h1 {Q : D → Sg → Prop} {h : M Hd} {f : Vw → M D} : Ok (h1 h f S) Q ↔ Ok (h S) fun x S1 => onO (vwH S1 x) fun v => Ok (f v S1) Q := by unfold h1; simp only [ok_bd, ok_seeI]
@[simp] theorem ok_h1C {Q : Cell → Sg → Prop} {h : M Hd} {f : Vw → M Cell} : Ok (h1C h f S) Q ↔ Ok (h S) fun x S1 => onO (vwH S1 x) fun v => Ok (f v S1) Q := by unfold h1C; simp only [ok_bd, ok_seeI]
@[simp] theorem ok_lenF {Q : D → Sg → Prop} {v : Vw} : Ok (lenF v S) Q ↔ Q (.int v.2.length) S := ok_ok
@[simp] theorem ok_listF {Q : Cell → Sg → Prop} {v : Vw} : Ok (listF v S) Q ↔ Q (.lst v.2) S := ok_ok
@[simp] theorem ok_frzC {Q : D → Sg → Prop} : Ok (frzC (.lst xs) S) Q ↔ Q (.lst xs) S := ok_ok
@[simp] theorem ok_boxC {Q : D → Sg → Prop} {c : Cell} : Ok (boxC c ⟨sl, g⟩) Q ↔ Q (.box g.nx) ⟨sl, g.add c⟩ := ok_ok
theorem ok_frzD {Q : D → Sg → Prop} (h : g.cs r = some (.lst xs)) : Ok (frzD (.box r) ⟨sl, g⟩) Q ↔ Q (.lst xs) ⟨sl, g.del r⟩ := by
  unfold frzD
  simp only [h]
  (first | exact ok_ok | exact ok_stuck | exact ok_exc | exact Iff.rfl)
@[simp] theorem ok_frzD_lst {Q : D → Sg → Prop} : Ok (frzD (.lst xs) S) Q ↔ Q (.lst xs) S := ok_ok
@[simp] theorem ok_lstM {Q : Cell → Sg → Prop} {ms : M (List D)} : Ok (lstM ms S) Q ↔ Ok (ms S) fun ds S1 => ds.length ≤ sizeLine ∧ Q (.lst ds) S1 := by unfold lstM; simp only [ok_bd, ok_guard]
@[simp] theorem ok_tupM {Q : D → Sg → Prop} {ms : M (List D)} : Ok (tupM ms S) Q ↔ Ok (ms S) fun ds S1 => ds.length ≤ sizeLine ∧ Q (.tup ds) S1 := by unfold tupM; simp only [ok_bd, ok_guard]
theorem ok_ixM {Q : D → Sg → Prop} {h : M Hd} {m : M D} : Ok (ixM h m S) Q ↔ Ok (h S) fun x S1 => Ok (m S1) fun i S2 => onO (vwH S2 x) fun v => Ok (ixP v i S2) Q := by unfold ixM; simp only [ok_bd, ok_seeI]
theorem ok_ixP {Q : D → Sg → Prop} {v : Vw} {i : Int} {d : D} (e : atI v.2 i = some d) (q : Q d S) : Ok (ixP v (.int i) S) Q := by
  unfold ixP
  simp only [e]
  exact ok_ok.mpr q
theorem ok_ixPI {Q : D → Sg → Prop} {v : Vw} {i : Int} : Ok (ixP v (.int i) S) Q ↔ onO (atI v.2 i) fun d => Q d S := by
  unfold ixP
  cases e : atI v.2 i with
  | none => simp only [e, ok_nope]; simp
  | some d => simp only [e, ok_ret]; simp
theorem ok_slM {Q : D → Sg → Prop} {h : M Hd} {l u : M (Option Int)} : Ok (slM h l u S) Q ↔ Ok (h S) fun x S1 => Ok (l S1) fun a S2 => Ok (u S2) fun b S3 => onO (vwH S3 x) fun v => (if v.1 = true then Q (.lst (cutD v.2 a b)) S3 else Q (.tup (cutD v.2 a b)) S3) := by
  unfold slM
  simp only [ok_bd, ok_seeI]
  have e : ∀ (v : Vw) a b (S3 : Sg), Ok ((if v.1 = true then ret (.lst (cutD v.2 a b)) else ret (.tup (cutD v.2 a b)) : M D) S3) Q ↔ (if v.1 = true then Q (.lst (cutD v.2 a b)) S3 else Q (.tup (cutD v.2 a b)) S3) := fun v a b S3 => by cases v.1 <;> (first | exact ok_ok | exact ok_stuck | exact ok_exc | exact Iff.rfl)
  simp only [e]
theorem ok_slC {Q : Cell → Sg → Prop} {h : M Hd} {l u : M (Option Int)} : Ok (slC h l u S) Q ↔ Ok (h S) fun x S1 => Ok (l S1) fun a S2 => Ok (u S2) fun b S3 => onO (vwH S3 x) fun v => v.1 = true ∧ Q (.lst (cutD v.2 a b)) S3 := by
  unfold slC
  simp only [ok_bd, ok_seeI, ok_guard]
@[simp] theorem ok_oint {Q : Option Int → Sg → Prop} : Ok (oint (.int i) S) Q ↔ Q (some i) S := ok_ok
theorem ok_catC {Q : Cell → Sg → Prop} {a b : M Hd} : Ok (catC a b S) Q ↔ Ok (a S) fun x S1 => Ok (b S1) fun y S2 => onO (vwH S2 x) fun u => onO (vwH S2 y) fun v => (u.1 = true ∧ v.1 = true ∧ u.2.length + v.2.length ≤ sizeLine) ∧ Q (.lst (u.2 ++ v.2)) S2 := by
  unfold catC
  simp only [ok_bd, ok_seeI, ok_guard]
theorem ok_revC {Q : Cell → Sg → Prop} {h : M Hd} : Ok (revC h S) Q ↔ Ok (h S) fun x S1 => onO (vwH S1 x) fun v => v.1 = true ∧ Q (.lst v.2.reverse) S1 := by
  unfold revC
  simp only [ok_h1C, ok_guard]
/-! ### places -/
theorem ok_chk {Q : Unit → Sg → Prop} {p : Pl} : Ok (chkL p S) Q ↔ onL (getP p S) fun _ => Q () S := by
  unfold chkL
  cases e : getP p S with
  | none => simp [Ok, onL]
  | some x => cases x <;> simp [Ok, onL]
theorem ok_mutL {Q : D → Sg → Prop} {f : List D → List D → Option (D × List D)} {p : Pl} {as : List D} : Ok (mutL f p as S) Q ↔ onL (getP p S) fun xs => onO (f as xs) fun q => Q q.1 (putP p (.lst q.2) S) := by
  unfold mutL
  cases e : getP p S with
  | none => simp [Ok, onL]
  | some x =>
    cases x with
    | lst xs =>
      rw [onL_lst]
      simp only []
      cases e2 : f as xs with
      | none => simp only [e2]; simp
      | some q => simp only [e2]; simp
    | _ => simp [Ok, onL]
theorem ok_mutM {Q : D → Sg → Prop} {f : List D → List D → Option (D × List D)} {P : M Pl} {ms : M (List D)} : Ok (mutM f P ms S) Q ↔ Ok (P S) fun p S1 => onL (getP p S1) fun _ => Ok (ms S1) fun as S2 => onL (getP p S2) fun xs => onO (f as xs) fun q => Q q.1 (putP p (.lst q.2) S2) := by
  unfold mutM
  simp only [ok_bd, ok_chk, ok_mutL]
theorem ok_extM {Q : D → Sg → Prop} {P : M Pl} {h : M Hd} : Ok (extM P h S) Q ↔ Ok (P S) fun p S1 => onL (getP p S1) fun _ => Ok (h S1) fun y S2 => onO (vwH S2 y) fun v => onL (getP p S2) fun xs => (v.1 = true ∧ xs.length + v.2.length ≤ sizeLine) ∧ Q .non (putP p (.lst (xs ++ v.2)) S2) := by
  unfold extM
  simp only [ok_bd, ok_chk, ok_seeI]
  refine ok_congr fun p S1 => exists_congr fun _ => and_congr_right fun _ => ok_congr fun y S2 => exists_congr fun v => and_congr_right fun _ => ?_
  cases e : getP p S2 with
  | none => simp [Ok, onL]
  | some x =>
    cases x with
    | lst xs => by_cases z : v.1 = true ∧ xs.length + v.2.length ≤ sizeLine <;> simp [z, Ok]
    | _ => simp [Ok, onL]
theorem getP_own {n : Nat} {c : Cell} (h : sl[n]? = some (.own c)) : getP (.sl n) ⟨sl, g⟩ = some c := by unfold getP; simp only [h]
@[simp] theorem getP_box : getP (.bx r) ⟨sl, g⟩ = g.cs r := rfl
@[simp] theorem putP_own {n : Nat} {c : Cell} : putP (.sl n) c ⟨sl, g⟩ = ⟨sl.set n (.own c), g⟩ := rfl
@[simp] theorem putP_box {c : Cell} : putP (.bx r) c ⟨sl, g⟩ = ⟨sl, g.put r c⟩ := rfl
@[simp] theorem ok_plE {Q : Pl → Sg → Prop} {m : M D} : Ok (plE m S) Q ↔ Ok (m S) fun d S1 => ∃ r, d = .box r ∧ Q (.bx r) S1 := by
  unfold plE
  rw [ok_bind]
  refine ok_congr fun d S1 => ?_
  cases d <;> simp [Ok]
theorem ok_putIx {Q : Fl → Sg → Prop} {p : Pl} {i d : D} : Ok (putIx p i d S) Q ↔ onO (getP p S) fun x => onO (setC x i d) fun y => Q .nx (putP p y S) := by
  unfold putIx
  cases e : getP p S with
  | none => simp [Ok]
  | some x =>
    cases e2 : setC x i d with
    | none => simp [Ok, e2]
    | some y => simp [Ok, e2]
@[simp] theorem ok_setIxM {Q : Fl → Sg → Prop} {mv mi : M D} {P : M Pl} : Ok (setIxM mv P mi S) Q ↔ Ok (mv S) fun d S1 => Ok (P S1) fun p S2 => Ok (mi S2) fun i S3 => onO (getP p S3) fun x => onO (setC x i d) fun y => Q .nx (putP p y S3) := by
  unfold setIxM
  simp only [ok_bd, ok_putIx]
/-! ### targets -/
@[simp] theorem asg_nm {n : Nat} : asg (.nm n) d ⟨sl, g⟩ = some ⟨sl.set n (.val d), g⟩ := by simp only [asg]; rfl
@[simp] theorem ok_asgM {Q : Fl → Sg → Prop} {T : Tg} {m : M D} : Ok (asgM T m S) Q ↔ Ok (m S) fun d S1 => onO (asg T d S1) fun S2 => Q .nx S2 := by
  unfold asgM
  rw [ok_bd]
  refine ok_congr fun d S1 => ?_
  cases asg T d S1 <;> simp [Ok]
@[simp] theorem ok_parM {Q : Fl → Sg → Prop} {is : List Nat} {ms : M (List Slot)} : Ok (parM is ms S) Q ↔ Ok (ms S) fun xs S1 => xs.length = is.length ∧ Q .nx (stAll is xs S1) := by
  unfold parM
  rw [ok_bd]
  have e : ∀ (xs : List Slot) (S1 : Sg), Ok (if xs.length = is.length then .ok .nx (stAll is xs S1) else .stuck) Q ↔ xs.length = is.length ∧ Q .nx (stAll is xs S1) := fun xs S1 => by
    by_cases z : xs.length = is.length <;> simp [z]
  simp only [e]
@[simp] theorem ok_pNil {Q : List Slot → Sg → Prop} : Ok (pNil S) Q ↔ Q [] S := ok_ok
@[simp] theorem ok_pVal {Q : List Slot → Sg → Prop} {m : M D} {ms : M (List Slot)} : Ok (pVal m ms S) Q ↔ Ok (m S) fun d S1 => Ok (ms S1) fun xs S2 => Q (.val d :: xs) S2 := by unfold pVal; simp only [ok_bd, ok_ret]
@[simp] theorem ok_pOwn {Q : List Slot → Sg → Prop} {m : M Cell} {ms : M (List Slot)} : Ok (pOwn m ms S) Q ↔ Ok (m S) fun d S1 => Ok (ms S1) fun xs S2 => Q (.own d :: xs) S2 := by unfold pOwn; simp only [ok_bd, ok_ret]
@[simp] theorem stAll_nil : stAll [] [] S = S := rfl
@[simp] theorem stAll_cons {n : Nat} {is : List Nat} {x : Slot} {xs : List Slot} : stAll (n :: is) (x :: xs) S = stAll is xs (S.st n x) := rfl
/-! ### sources -/
@[simp] theorem ok_itemsD {Q : Src → Sg → Prop} : Ok (itemsD d S) Q ↔ onO (vwD S d) fun v => Q ⟨v.2, fun S' => vwD S' d = some v⟩ S := by
  unfold itemsD
  cases e : vwD S d <;> simp [Ok]
@[simp] theorem ok_enumS {Q : Src → Sg → Prop} : Ok (enumS d S) Q ↔ onO (vwD S d) fun v => Q ⟨enFrom 0 v.2, fun S' => vwD S' d = some v⟩ S := by
  unfold enumS
  cases e : vwD S d <;> simp [Ok]
theorem ok_rng1 {Q : Src → Sg → Prop} : Ok (rng1 (.int j) S) Q ↔ (-(2 ^ 62) ≤ j ∧ j < 2 ^ 62) ∧ Q ⟨rngD 0 j.toNat, always⟩ S := ok_guard
theorem ok_rng2 {Q : Src → Sg → Prop} : Ok (rng2 (.int i) (.int j) S) Q ↔ (-(2 ^ 62) ≤ i ∧ i < 2 ^ 62 ∧ -(2 ^ 62) ≤ j ∧ j < 2 ^ 62) ∧ Q ⟨rngD i (j - i).toNat, always⟩ S := ok_guard
/-! ### comprehensions -/
theorem ok_lcM {src : M Src} {T : Tg} {vs : List Nat} {t : M Bool} {e : M D} {Q : Cell → Sg → Prop}
    (hs : Ok (src S) fun s S1 => (noOwn S1.sl vs = true ∧ ∀ i ∈ T.ix, i ∈ vs) ∧ ∃ I : Nat → List D → Sg → Prop, (∀ i acc S, i ≤ s.ds.length → I i acc S → s.ok S) ∧ I 0 [] S1 ∧
      (∀ i d acc S, s.ds[i]? = some d → I i acc S → ∃ S2, asg T d (inner vs S) = some S2 ∧ Ok (t S2) fun b S3 => if b = true then Ok (e S3) fun y S4 => acc.length < sizeLine ∧ I (i + 1) (acc ++ [y]) (outer vs S S4) else I (i + 1) acc (outer vs S S3)) ∧
      ∀ acc S, I s.ds.length acc S → Q (.lst acc) S) : Ok (lcM src T vs t e S) Q := by
  unfold lcM
  rw [ok_bd]
  refine hs.imp fun s S1 ⟨hno, I, hok, h0, step, fin⟩ => ?_
  rw [if_pos hno, ok_bind]
  simp only [ok_ret]
  obtain ⟨ds, ok⟩ := s
  have go : ∀ (n i : Nat) (acc : List D) (S : Sg), ds.length - i = n → i ≤ ds.length → I i acc S → Ok (lcG T vs t e ok (ds.drop i) acc S) fun acc S => Q (.lst acc) S := by
    intro n
    induction n with
    | zero =>
      intro i acc S hn hi h
      have e : i = ds.length := by omega
      subst e
      rw [List.drop_length]
      simp only [lcG, if_pos (hok _ _ _ (Nat.le_refl _) h)]
      exact ok_ok.mpr (fin acc S h)
    | succ n ih =>
      intro i acc S hn hi h
      have hlt : i < ds.length := by omega
      rw [List.drop_eq_getElem_cons hlt]
      simp only [lcG, if_pos (hok _ _ _ hi h)]
      obtain ⟨S2, e1, h1⟩ := step i ds[i] acc S (List.getElem?_eq_getElem hlt) h
      simp only [e1]
      obtain ⟨b, S3, e2, h2⟩ := h1.get
      rw [e2]
      cases b with
      | false => exact ih (i + 1) acc _ (by omega) hlt h2
      | true =>
        obtain ⟨y, S4, e3, h3, h4⟩ := Ok.get (show Ok (e S3) _ from h2)
        simp only [e3, if_pos h3]
        exact ih (i + 1) _ _ (by omega) hlt h4
  exact go _ 0 [] S1 rfl (Nat.zero_le _) h0
/-- one name, nothing else of the frame is touched -/
theorem inner1 {n : Nat} : (inner [n] ⟨sl, g⟩).st n (.val d) = ⟨sl.set n (.val d), g⟩ := by
  show (⟨(sl.set n .emp).set n (.val d), g⟩ : Sg) = _
  rw [List.set_set]
theorem outer1 {n : Nat} {x : Slot} {g' : G} (h : n < sl.length) : outer [n] ⟨sl, g⟩ ⟨sl.set n x, g'⟩ = ⟨sl, g'⟩ := by
  show (⟨(sl.set n x).set n (sl.getD n .emp), g'⟩ : Sg) = _
  rw [List.set_set]
  congr 1
  refine List.ext_getElem? fun k => ?_
  by_cases e : k = n
  · subst e
    rw [List.getElem?_set_self h, List.getD_eq_getElem?_getD, List.getElem?_eq_getElem h]
    rfl
  · rw [List.getElem?_set_ne (Ne.symm e)]
theorem ok_lc1 {src : M Src} {n : Nat} {t : M Bool} {e : M D} {Q : Cell → Sg → Prop} (hn : n < sl.length) (hno : noOwn sl [n] = true)
    (hs : Ok (src ⟨sl, g⟩) fun s S1 => S1.sl = sl ∧ ∃ I : Nat → List D → G → Prop, (∀ i acc g, i ≤ s.ds.length → I i acc g → s.ok ⟨sl, g⟩) ∧ I 0 [] S1.g ∧
      (∀ i d acc g, s.ds[i]? = some d → I i acc g → Ok (t ⟨sl.set n (.val d), g⟩) fun b S3 => S3.sl = sl.set n (.val d) ∧ if b = true then Ok (e S3) fun y S4 => S4.sl = sl.set n (.val d) ∧ acc.length < sizeLine ∧ I (i + 1) (acc ++ [y]) S4.g else I (i + 1) acc S3.g) ∧
      ∀ acc g, I s.ds.length acc g → Q (.lst acc) ⟨sl, g⟩) : Ok (lcM src (.nm n) [n] t e ⟨sl, g⟩) Q := by
  refine ok_lcM (hs.imp fun s S1 ⟨h1, I, hok, h0, step, fin⟩ => ?_)
  obtain ⟨sl1, g1⟩ := S1
  have h1 : sl1 = sl := h1
  subst h1
  refine ⟨⟨hno, fun i hi => by simpa only [Tg.ix] using hi⟩, fun i acc S => S.sl = sl1 ∧ I i acc S.g, fun i acc S hi ⟨e1, h⟩ => by obtain ⟨s1, g1⟩ := S; cases e1; exact hok i acc g1 hi h, ⟨rfl, h0⟩, ?_, fun acc S ⟨e1, h⟩ => by obtain ⟨s1, g1⟩ := S; cases e1; exact fin acc g1 h⟩
  rintro i d acc ⟨s2, g2⟩ hd ⟨e1, h⟩
  have e1 : s2 = sl1 := e1
  subst e1
  refine ⟨⟨s2.set n (.val d), g2⟩, by simp only [asg]; exact congrArg some inner1, (step i d acc g2 hd h).imp fun b S3 ⟨e3, h3⟩ => ?_⟩
  obtain ⟨s3, g3⟩ := S3
  have e3 : s3 = s2.set n (.val d) := e3
  subst e3
  cases b with
  | false =>
    show (outer [n] ⟨s2, g2⟩ ⟨s2.set n (.val d), g3⟩).sl = s2 ∧ I (i + 1) acc (outer [n] ⟨s2, g2⟩ ⟨s2.set n (.val d), g3⟩).g
    rw [outer1 hn]
    exact ⟨rfl, h3⟩
  | true =>
    refine Ok.imp (show Ok (e _) _ from h3) fun y S4 ⟨e4, hl, h4⟩ => ⟨hl, ?_⟩
    obtain ⟨s4, g4⟩ := S4
    have e4 : s4 = s2.set n (.val d) := e4
    subst e4
    rw [outer1 hn]
    exact ⟨rfl, h4⟩
end
end Mm
end

section
/-! MmU: ints, rows of dInts, lists of rows: == and in of them. -/
namespace Mm
open PySem L2
/-- a row of ints; a list of rows -/
def dInts (ns : List Int) : D := .lst (ns.map D.int)
def dRows (rs : List (List Int)) : D := .lst (rs.map dInts)
def pInts (ns : List Int) : PyData := .list (ns.map PyData.int)
def pRows (rs : List (List Int)) : PyData := .list (rs.map pInts)
theorem pyDs_ints : ∀ ns : List Int, pyDs (ns.map D.int) = some (ns.map PyData.int)
  | [] => by simp [pyDs]
  | n :: ns => by simp [pyDs, pyD, pyDs_ints ns]
@[simp] theorem pyD_int {i : Int} : pyD (.int i) = some (.int i) := by simp [pyD]
@[simp] theorem pyD_bl {b : Bool} : pyD (.bl b) = some (.bool b) := by simp [pyD]
@[simp] theorem pyD_ints {ns : List Int} : pyD (dInts ns) = some (pInts ns) := by simp [dInts, pyD, pyDs_ints, pInts]
theorem pyDs_rows : ∀ rs : List (List Int), pyDs (rs.map dInts) = some (rs.map pInts)
  | [] => by simp [pyDs]
  | r :: rs => by simp [pyDs, pyDs_rows rs]
@[simp] theorem pyD_rows {rs : List (List Int)} : pyD (dRows rs) = some (pRows rs) := by simp [dRows, pyD, pyDs_rows, pRows]
theorem depthAll_ints : ∀ ns : List Int, PyData.depthAll (ns.map PyData.int) = 0
  | [] => by simp [PyData.depthAll]
  | n :: ns => by simp [PyData.depthAll, PyData.depth, depthAll_ints ns]
theorem canLay_ints : ∀ ns : List Int, PyData.canLayAll0 (ns.map PyData.int) = true
  | [] => by simp [PyData.canLayAll0]
  | n :: ns => by simp [PyData.canLayAll0, PyData.canLay0, canLay_ints ns]
theorem depth_ints (ns : List Int) : (pInts ns).depth = 1 := by simp [pInts, PyData.depth, depthAll_ints]
theorem depthAll_rows : ∀ rs : List (List Int), PyData.depthAll (rs.map pInts) ≤ 1
  | [] => by simp [PyData.depthAll]
  | r :: rs => by
    have := depthAll_rows rs
    simp only [List.map_cons, PyData.depthAll, depth_ints]
    omega
theorem canLay_rows : ∀ rs : List (List Int), PyData.canLayAll0 (rs.map pInts) = true
  | [] => by simp [PyData.canLayAll0]
  | r :: rs => by simp [PyData.canLayAll0, PyData.canLay0, pInts, canLay_ints, canLay_rows rs]
@[simp] theorem shaped_int {i : Int} : SeqAt.shaped (.int i) = true := by simp [SeqAt.shaped, PyData.canLay0, PyData.depth]
@[simp] theorem shaped_bl {b : Bool} : SeqAt.shaped (.bool b) = true := by simp [SeqAt.shaped, PyData.canLay0, PyData.depth]
@[simp] theorem shaped_ints {ns : List Int} : SeqAt.shaped (pInts ns) = true := by simp [SeqAt.shaped, pInts, PyData.canLay0, PyData.depth, canLay_ints, depthAll_ints]
@[simp] theorem shaped_rows {rs : List (List Int)} : SeqAt.shaped (pRows rs) = true := by
  have := depthAll_rows rs
  simp only [SeqAt.shaped, pRows, PyData.canLay0, PyData.depth, canLay_rows, Bool.true_and, decide_eq_true_eq]
  omega
@[simp] theorem eqv_int {i j : Int} : PyData.eqv (.int i) (.int j) = decide (i = j) := by simp only [PyData.eqv]; exact Bool.beq_eq_decide_eq i j
@[simp] theorem eqv_bl {i j : Bool} : PyData.eqv (.bool i) (.bool j) = decide (i = j) := by simp only [PyData.eqv]; exact Bool.beq_eq_decide_eq i j
theorem eqvAll_ints : ∀ a b : List Int, PyData.eqvAll (a.map PyData.int) (b.map PyData.int) = decide (a = b)
  | [], [] => by simp [PyData.eqvAll]
  | [], _ :: _ => by simp [PyData.eqvAll]
  | _ :: _, [] => by simp [PyData.eqvAll]
  | x :: xs, y :: ys => by simp [PyData.eqvAll, eqvAll_ints xs ys]
@[simp] theorem eqv_ints {a b : List Int} : PyData.eqv (pInts a) (pInts b) = decide (a = b) := by simp [pInts, PyData.eqv, eqvAll_ints]
theorem eqvAll_rows : ∀ a b : List (List Int), PyData.eqvAll (a.map pInts) (b.map pInts) = decide (a = b)
  | [], [] => by simp [PyData.eqvAll]
  | [], _ :: _ => by simp [PyData.eqvAll]
  | _ :: _, [] => by simp [PyData.eqvAll]
  | x :: xs, y :: ys => by simp [PyData.eqvAll, eqvAll_rows xs ys]
@[simp] theorem eqv_rows {a b : List (List Int)} : PyData.eqv (pRows a) (pRows b) = decide (a = b) := by simp [pRows, PyData.eqv, eqvAll_rows]
section
variable {S : Sg} {i j : Int} {a b : List Int} {as bs : List (List Int)} {Q : D → Sg → Prop}
@[simp] theorem ok_eqI : Ok (eqM (.int i) (.int j) S) Q ↔ Q (.bl (decide (i = j))) S := by simp [eqM, eqP]
@[simp] theorem ok_neI : Ok (neM (.int i) (.int j) S) Q ↔ Q (.bl (!decide (i = j))) S := by simp [neM, eqP]
@[simp] theorem ok_eqR : Ok (eqM (dInts a) (dInts b) S) Q ↔ Q (.bl (decide (a = b))) S := by simp [eqM, eqP]
@[simp] theorem ok_neR : Ok (neM (dInts a) (dInts b) S) Q ↔ Q (.bl (!decide (a = b))) S := by simp [neM, eqP]
@[simp] theorem ok_eqRs : Ok (eqM (dRows as) (dRows bs) S) Q ↔ Q (.bl (decide (as = bs))) S := by simp [eqM, eqP]
@[simp] theorem ok_eqB {x y : Bool} : Ok (eqM (.bl x) (.bl y) S) Q ↔ Q (.bl (decide (x = y))) S := by simp [eqM, eqP]
@[simp] theorem ok_neB {x y : Bool} : Ok (neM (.bl x) (.bl y) S) Q ↔ Q (.bl (!decide (x = y))) S := by simp [neM, eqP]
theorem ok_eqHM {neg : Bool} {x y : M Hd} : Ok (eqHM neg x y S) Q ↔ Ok (x S) fun h S1 => Ok (y S1) fun k S2 => onO (vwH S2 h) fun u => onO (vwH S2 k) fun v => Ok (eqP neg (pyV u) (pyV v) S2) Q := by
  unfold eqHM
  simp only [ok_bd, ok_seeI]
theorem pyV_ints {ns : List Int} : pyV (true, ns.map D.int) = some (pInts ns) := by simp [pyV, pyDs_ints, pInts]
theorem pyV_rows {rs : List (List Int)} : pyV (true, rs.map dInts) = some (pRows rs) := by simp [pyV, pyDs_rows, pRows]
theorem ok_eqP_ints {neg : Bool} : Ok (eqP neg (some (pInts a)) (some (pInts b)) S) Q ↔ Q (.bl (if neg then !decide (a = b) else decide (a = b))) S := by simp [eqP]
theorem ok_inM {neg : Bool} {m : M D} {h : M Hd} : Ok (inM neg m h S) Q ↔ Ok (m S) fun d S1 => Ok (h S1) fun k S2 => onO (vwH S2 k) fun v => Ok (inP neg d v S2) Q := by
  unfold inM
  simp only [ok_bd, ok_seeI]
theorem any_ints {ns : List Int} : (ns.map PyData.int).any (fun z => PyData.eqv z (.int i)) = decide (i ∈ ns) := by
  induction ns with
  | nil => simp
  | cons n ns ih =>
    simp only [List.map_cons, List.any_cons, ih, eqv_int]
    simp only [List.mem_cons, eq_comm (a := i)]
    by_cases h : n = i <;> by_cases h2 : i ∈ ns <;> simp [h, h2]
theorem any_rows {rs : List (List Int)} : (rs.map pInts).any (fun z => PyData.eqv z (pInts a)) = decide (a ∈ rs) := by
  induction rs with
  | nil => simp
  | cons n ns ih =>
    simp only [List.map_cons, List.any_cons, ih, eqv_ints]
    simp only [List.mem_cons, eq_comm (a := a)]
    by_cases h : n = a <;> by_cases h2 : a ∈ ns <;> simp [h, h2]
theorem shaped_lints {ns : List Int} : SeqAt.shaped (.list (ns.map PyData.int)) = true := shaped_ints (ns := ns)
theorem shaped_lrows {rs : List (List Int)} : SeqAt.shaped (.list (rs.map pInts)) = true := shaped_rows (rs := rs)
@[simp] theorem ok_inI {neg : Bool} {ns : List Int} : Ok (inP neg (.int i) (true, ns.map D.int) S) Q ↔ Q (.bl (if neg then !decide (i ∈ ns) else decide (i ∈ ns))) S := by
  have h := any_ints (i := i) (ns := ns)
  simp only [inP, if_true, pyD_int, pyDs_ints, shaped_int, shaped_lints, Bool.and_self, h, ok_ret]
@[simp] theorem ok_inR {neg : Bool} {rs : List (List Int)} : Ok (inP neg (dInts a) (true, rs.map dInts) S) Q ↔ Q (.bl (if neg then !decide (a ∈ rs) else decide (a ∈ rs))) S := by
  have h := any_rows (a := a) (rs := rs)
  simp only [inP, if_true, pyD_ints, pyDs_rows, shaped_ints, shaped_lrows, Bool.and_self, h, ok_ret]
end
end Mm
end

section
/-! MmV: what runs well: and, or, not, chains, fields, methods, comprehensions that change nothing. -/
namespace Mm
open PySem L2
def onB (d : D) (p : Bool → Prop) : Prop := ∃ b, d = .bl b ∧ p b
@[simp] theorem onB_bl {b : Bool} {p : Bool → Prop} : onB (.bl b) p ↔ p b := ⟨fun ⟨_, e, h⟩ => by cases e; exact h, fun h => ⟨b, rfl, h⟩⟩
def onI (d : D) (p : Int → Prop) : Prop := ∃ i, d = .int i ∧ p i
@[simp] theorem onI_int {i : Int} {p : Int → Prop} : onI (.int i) p ↔ p i := ⟨fun ⟨_, e, h⟩ => by cases e; exact h, fun h => ⟨i, rfl, h⟩⟩
def onX (d : D) (p : Nat → Prop) : Prop := ∃ r, d = .box r ∧ p r
@[simp] theorem onX_box {r : Nat} {p : Nat → Prop} : onX (.box r) p ↔ p r := ⟨fun ⟨_, e, h⟩ => by cases e; exact h, fun h => ⟨r, rfl, h⟩⟩
section
variable {S : Sg} {sl : List Slot} {g : G} {Q : D → Sg → Prop} {d x y : D} {i j : Int} {a b c : M D}
theorem ok_andV : Ok (andV a b S) Q ↔ Ok (a S) fun x S1 => onB x fun p => if p = true then Ok (b S1) (fun y S2 => onB y fun k => Q (.bl k) S2) else Q (.bl false) S1 := by
  unfold andV
  rw [ok_bd]
  refine ok_congr fun x S1 => ?_
  cases x with
  | bl p =>
    cases p with
    | true =>
      simp only [ok_bd, onB_bl, if_true]
      refine ok_congr fun y S2 => ?_
      cases y <;> simp [onB]
    | false => simp
  | _ => simp [onB]
theorem ok_orV : Ok (orV a b S) Q ↔ Ok (a S) fun x S1 => onB x fun p => if p = true then Q (.bl true) S1 else Ok (b S1) (fun y S2 => onB y fun k => Q (.bl k) S2) := by
  unfold orV
  rw [ok_bd]
  refine ok_congr fun x S1 => ?_
  cases x with
  | bl p =>
    cases p with
    | true => simp
    | false =>
      simp only [ok_bd, onB_bl, if_false, Bool.false_eq_true]
      refine ok_congr fun y S2 => ?_
      cases y <;> simp [onB]
  | _ => simp [onB]
theorem ok_notV : Ok (notV a S) Q ↔ Ok (a S) fun x S1 => onB x fun p => Q (.bl (!p)) S1 := by
  unfold notV
  rw [ok_bd]
  refine ok_congr fun x S1 => ?_
  cases x <;> simp [onB]
theorem ok_negM : Ok (negM a S) Q ↔ Ok (a S) fun x S1 => onI x fun p => Q (.int (-p)) S1 := by
  unfold negM
  rw [ok_bd]
  refine ok_congr fun x S1 => ?_
  cases x <;> simp [onI]
theorem ok_chain2 {f h : D → D → M D} : Ok (chain2 f h a b c S) Q ↔ Ok (a S) fun x S1 => Ok (b S1) fun y S2 => Ok (f x y S2) fun z S3 => onB z fun p => if p = true then Ok (c S3) (fun u S4 => Ok (h y u S4) Q) else Q (.bl false) S3 := by
  unfold chain2
  simp only [ok_bd]
  refine ok_congr fun x S1 => ok_congr fun y S2 => ok_congr fun z S3 => ?_
  cases z with
  | bl p => cases p <;> simp
  | _ => simp [onB]
@[simp] theorem ok_isNT {Q : Bool → Sg → Prop} : Ok (isNT a S) Q ↔ Ok (a S) fun x S1 => Q (isN x) S1 := by unfold isNT; simp only [ok_bd, ok_ret]
@[simp] theorem ok_notNT {Q : Bool → Sg → Prop} : Ok (notNT a S) Q ↔ Ok (a S) fun x S1 => Q (!isN x) S1 := by unfold notNT; simp only [ok_bd, ok_ret]
theorem ok_v2 {f : D → D → M D} : Ok (v2 a b f S) Q ↔ Ok (a S) fun x S1 => Ok (b S1) fun y S2 => Ok (f x y S2) Q := by unfold v2; simp only [ok_bd]
@[simp] theorem ok_min2F : Ok (min2F (.int i) (.int j) S) Q ↔ Q (.int (if j < i then j else i)) S := ok_ok
@[simp] theorem ok_max2F : Ok (max2F (.int i) (.int j) S) Q ↔ Q (.int (if i < j then j else i)) S := ok_ok
@[simp] theorem ok_tupleF {v : Vw} : Ok (tupleF v S) Q ↔ Q (.tup v.2) S := ok_ok
theorem ok_allF {bs : List Bool} : Ok (allF (true, bs.map D.bl) S) Q ↔ Q (.bl (bs.all id)) S := by
  unfold allF onBls
  rw [if_pos rfl, blsOf_map]
  exact ok_ok
theorem ok_anyF {bs : List Bool} : Ok (anyF (true, bs.map D.bl) S) Q ↔ Q (.bl (bs.any id)) S := by
  unfold anyF onBls
  rw [if_pos rfl, blsOf_map]
  exact ok_ok
theorem findIdx_ints {ns : List Int} {z : Int} : (ns.map PyData.int).findIdx? (fun w => PyData.eqv w (.int z)) = ns.findIdx? (fun w => decide (w = z)) := by
  rw [List.findIdx?_map]
  refine congrArg (fun p => List.findIdx? p ns) (funext fun w => ?_)
  exact eqv_int
theorem ok_indexM {h : M Hd} {m : M D} : Ok (indexM h m S) Q ↔ Ok (h S) fun x S1 => onO (vwH S1 x) fun u => u.1 = true ∧ Ok (m S1) fun d S2 => onO (vwH S2 x) fun v => Ok (indexD v d S2) Q := by
  unfold indexM
  simp only [ok_bd, ok_seeI]
  refine ok_congr fun x S1 => ?_
  constructor
  · rintro ⟨u, e, h⟩
    refine ⟨u, e, ?_⟩
    by_cases hu : u.1 = true
    · simp only [if_pos hu, ok_bd, ok_seeI] at h; exact ⟨hu, h⟩
    · simp only [if_neg hu] at h; exact (ok_nope.mp h).elim
  · rintro ⟨u, e, hu, h⟩
    refine ⟨u, e, ?_⟩
    simp only [if_pos hu, ok_bd, ok_seeI]; exact h
theorem ok_indexI {ns : List Int} {z : Int} {k : Nat} (hk : ns.findIdx? (fun w => decide (w = z)) = some k) : Ok (indexD (true, ns.map D.int) (.int z) S) Q ↔ Q (.int k) S := by
  unfold indexD
  rw [if_pos rfl, pyD_int, pyDs_ints]
  have e : SeqAt.shaped (.int z) = true ∧ SeqAt.shaped (.list (ns.map PyData.int)) = true := ⟨shaped_int, shaped_lints⟩
  simp only [if_pos e, findIdx_ints, hk]
  exact ok_ok
/-! ### fields -/
theorem ok_fldM {Cs : List Str} {f : Str} {m : M D} : Ok (fldM Cs f m S) Q ↔ Ok (m S) fun d S1 => onX d fun r => ∃ C fs z, S1.g.cs r = some (.ins C fs) ∧ C ∈ Cs ∧ lookA f fs = some z ∧ Q z S1 := by
  unfold fldM
  rw [ok_bd]
  refine ok_congr fun x S1 => ?_
  cases x with
  | box r =>
    simp only [onX_box]
    cases h : S1.g.cs r with
    | none => simp
    | some z =>
      cases z with
      | ins C fs =>
        simp only
        by_cases hC : C ∈ Cs
        · rw [if_pos hC]
          cases hl : lookA f fs with
          | none => simp [hl]
          | some w =>
            simp only [ok_ok]
            exact ⟨fun q => ⟨C, fs, w, rfl, hC, hl, q⟩, fun ⟨C', fs', w', e1, _, e2, q⟩ => by cases e1; rw [hl] at e2; cases e2; exact q⟩
        · rw [if_neg hC]
          simp only [ok_stuck, false_iff]
          rintro ⟨C', fs', w', e1, e3, _⟩
          cases e1; exact hC e3
      | _ => simp
  | _ => simp [onX]
theorem ok_setFldM {Q : Fl → Sg → Prop} {Cs : List Str} {f : Str} {mv m : M D} : Ok (setFldM Cs f mv m S) Q ↔ Ok (mv S) fun y S0 => Ok (m S0) fun d S1 => onX d fun r => ∃ C fs, S1.g.cs r = some (.ins C fs) ∧ (C ∈ Cs ∧ fs.length < 1000) ∧ Q .nx (S1.up (S1.g.put r (.ins C (putFA f y fs)))) := by
  unfold setFldM
  rw [ok_bd]
  refine ok_congr fun y S0 => ?_
  rw [ok_bd]
  refine ok_congr fun x S1 => ?_
  cases x with
  | box r =>
    simp only [onX_box]
    cases h : S1.g.cs r with
    | none => simp
    | some z =>
      cases z with
      | ins C fs =>
        simp only
        by_cases hC : C ∈ Cs ∧ fs.length < 1000
        · rw [if_pos hC]
          simp only [ok_ok]
          exact ⟨fun q => ⟨C, fs, rfl, hC, q⟩, fun ⟨C', fs', e1, _, q⟩ => by cases e1; exact q⟩
        · rw [if_neg hC]
          simp only [ok_stuck, false_iff]
          rintro ⟨C', fs', e1, e3, _⟩
          cases e1; exact hC e3
      | _ => simp
  | _ => simp [onX]
theorem ok_newM {C : Str} {f : F} {ds : List D} : Ok (newM C f ds ⟨sl, g⟩) Q ↔ Ok (f (.box g.nx :: ds) ⟨[], g.add (.ins C [])⟩) fun d S2 => d = .non ∧ Q (.box g.nx) ⟨sl, S2.g⟩ := by
  unfold newM
  simp only
  cases f (.box g.nx :: ds) ⟨[], g.add (.ins C [])⟩ with
  | ok d S2 => cases d <;> simp
  | exc _ _ _ => simp
  | stuck => simp
theorem ok_makeM {C : Str} {f : F} {ms : M (List D)} : Ok (makeM C f ms S) Q ↔ Ok (ms S) fun ds S1 => Ok (newM C f ds S1) Q := by unfold makeM; rw [ok_bd]
theorem ok_makeK {C : Str} {f : F} {ms : M (List D)} {idx : List Nat} : Ok (makeK C f idx ms S) Q ↔ Ok (ms S) fun ds S1 => Ok (newM C f (perm idx ds) S1) Q := by unfold makeK; rw [ok_bd]
theorem ok_recM {C m : Str} {r : Nat} {fs : List (Str × D)} (h : g.cs r = some (.ins C fs)) (hm : lookA m fs = none) : Ok (recM C m (.box r) ⟨sl, g⟩) Q ↔ Q (.box r) ⟨sl, g⟩ := by
  unfold recM
  simp only [h, hm, and_self, if_true]
  exact ok_ok
theorem ok_methM {C m : Str} {f : F} {mo : M D} {ms : M (List D)} : Ok (methM C m f mo ms S) Q ↔ Ok (mo S) fun x S0 => Ok (recM C m x S0) fun d S1 => Ok (ms S1) fun ds S2 => Ok (f (d :: ds) ⟨[], S2.g⟩) fun y S3 => Q y ⟨S2.sl, S3.g⟩ := by
  unfold methM
  simp only [ok_bd, ok_inF]
theorem ok_eqOwnM {fns cls : List Str} {C : Str} {f : F} : Ok (eqOwnM fns cls C f a b S) Q ↔ Ok (a S) fun x S0 => Ok (b S0) fun y S1 => Ok (recM C "__eq__" x S1) fun x' S2 => (tyD fns cls S2 y).isSome = true ∧ Ok (f [x', y] ⟨[], S2.g⟩) fun z S3 => Q z ⟨S2.sl, S3.g⟩ := by
  unfold eqOwnM eqOwn
  simp only [ok_bd]
  refine ok_congr fun x S0 => ok_congr fun y S1 => ok_congr fun x' S2 => ?_
  cases h : tyD fns cls S2 y with
  | none => simp
  | some t => simp [ok_inF]
theorem ok_neOwnM {fns cls : List Str} {C : Str} {f : F} : Ok (neOwnM fns cls C f a b S) Q ↔ Ok (eqOwnM fns cls C f a b S) fun x S1 => onB x fun p => Q (.bl (!p)) S1 := by
  unfold neOwnM
  rw [ok_notV]
/-! ### ints and rows, folded -/
@[simp] theorem vw_dI {ns : List Int} : vwH S (.d (dInts ns)) = some (true, ns.map D.int) := rfl
@[simp] theorem vwD_dI {ns : List Int} : vwD S (dInts ns) = some (true, ns.map D.int) := rfl
@[simp] theorem vw_dR {rs : List (List Int)} : vwH S (.d (dRows rs)) = some (true, rs.map dInts) := rfl
@[simp] theorem vwD_dR {rs : List (List Int)} : vwD S (dRows rs) = some (true, rs.map dInts) := rfl
theorem fold_ints {ns : List Int} : D.lst (ns.map D.int) = dInts ns := rfl
theorem fold_rows {rs : List (List Int)} : D.lst (rs.map dInts) = dRows rs := rfl
theorem fold_app {α : Type} {f : α → D} {a b : List α} : a.map f ++ b.map f = (a ++ b).map f := List.map_append.symm
theorem fold_1 {f : Int → D} {i : Int} : [f i] = [i].map f := rfl
theorem fold_2 {i j : Int} : D.lst [.int i, .int j] = dInts [i, j] := rfl
theorem fold_i1 {i : Int} : D.lst [.int i] = dInts [i] := rfl
theorem fold_r1 {r : List Int} : D.lst [dInts r] = dRows [r] := rfl
theorem fold_i0 : D.lst [] = dInts [] := rfl
@[simp] theorem ok_frzI {ns : List Int} : Ok (frzC (.lst (ns.map D.int)) S) Q ↔ Q (dInts ns) S := Iff.rfl.trans ok_frzC
@[simp] theorem ok_frzR {rs : List (List Int)} : Ok (frzC (.lst (rs.map dInts)) S) Q ↔ Q (dRows rs) S := Iff.rfl.trans ok_frzC
theorem cut_to {xs : List D} {k : Int} (h : 0 ≤ k) : cutD xs none (some k) = xs.take k.toNat := by
  unfold cutD
  obtain ⟨m, rfl⟩ := Int.eq_ofNat_of_zero_le h
  rw [HT.sIx_none, HT.sIx_nat, Nat.sub_zero, List.drop_zero, Int.toNat_natCast, List.take_eq_take_iff]
  omega
theorem cut_from {xs : List D} {k : Int} (h : 0 ≤ k) : cutD xs (some k) none = xs.drop k.toNat := by
  unfold cutD
  obtain ⟨m, rfl⟩ := Int.eq_ofNat_of_zero_le h
  rw [HT.sIx_none, HT.sIx_nat, Int.toNat_natCast]
  by_cases l : m ≤ xs.length
  · rw [Nat.min_eq_left l, ← List.length_drop, List.take_length]
  · rw [Nat.min_eq_right (by omega), List.drop_eq_nil_of_le (Nat.le_refl _), List.drop_eq_nil_of_le (by omega), List.take_nil]
theorem cutI_to {α : Type} {f : α → D} {ns : List α} {k : Int} (h : 0 ≤ k) : cutD (ns.map f) none (some k) = (ns.take k.toNat).map f := by
  rw [cut_to h, List.map_take]
theorem cutI_from {α : Type} {f : α → D} {ns : List α} {k : Int} (h : 0 ≤ k) : cutD (ns.map f) (some k) none = (ns.drop k.toNat).map f := by
  rw [cut_from h, List.map_drop]
theorem ok_rdv {i : Nat} (h : sl[i]? = some (.val d)) (q : Q d ⟨sl, g⟩) : Ok (rd i ⟨sl, g⟩) Q := by
  rw [ok_rd, h]; exact q
theorem src_items {i : Nat} {b : Bool} {xs : List D} (h : sl[i]? = some (.val d)) (hv : vwD ⟨sl, g⟩ d = some (b, xs)) (P : Src → Sg → Prop) (q : P ⟨xs, fun S' => vwD S' d = some (b, xs)⟩ ⟨sl, g⟩) : Ok (bd (rd i) itemsD ⟨sl, g⟩) P := by
  rw [ok_bd]
  refine ok_rdv h ?_
  rw [ok_itemsD, hv, onO_some]
  exact q
theorem ok_sortI {Q : Cell → Sg → Prop} {ns : List Int} : Ok (sortF (true, ns.map D.int) S) Q ↔ Q (.lst ((sortI ns).map D.int)) S := by
  unfold sortF
  simp only [intsOf_map, if_true]
  exact ok_ret
/-! ### a comprehension that changes nothing -/
theorem ok_lcMap {src : M Src} {n : Nat} {e : M D} {Q : Cell → Sg → Prop} {ds : List D} {ok : Sg → Prop} {f : D → D} (hn : n < sl.length) (hno : noOwn sl [n] = true)
    (hs : ∀ P : Src → Sg → Prop, P ⟨ds, ok⟩ ⟨sl, g⟩ → Ok (src ⟨sl, g⟩) P) (hok : ok ⟨sl, g⟩) (hl : ds.length ≤ sizeLine)
    (he : ∀ d ∈ ds, ∀ P : D → Sg → Prop, P (f d) ⟨sl.set n (.val d), g⟩ → Ok (e ⟨sl.set n (.val d), g⟩) P) (q : Q (.lst (ds.map f)) ⟨sl, g⟩) : Ok (lcM src (.nm n) [n] yesM e ⟨sl, g⟩) Q := by
  refine ok_lc1 hn hno (hs _ ⟨rfl, fun i acc g' => g' = g ∧ acc = (ds.take i).map f, ?_, ⟨rfl, rfl⟩, ?_, ?_⟩)
  · rintro i acc g' _ ⟨rfl, _⟩
    exact hok
  · rintro i d acc g' hd ⟨rfl, rfl⟩
    have hd : ds[i]? = some d := hd
    have hi : i < ds.length := (List.getElem?_eq_some_iff.mp hd).1
    refine ok_ret.mpr ⟨rfl, ?_⟩
    rw [if_pos rfl]
    refine he d (List.mem_of_getElem? hd) _ ⟨rfl, ?_, ?_⟩
    · rw [List.length_map, List.length_take]; omega
    · exact ⟨rfl, by rw [List.take_add_one, hd]; simp⟩
  · rintro acc g' ⟨rfl, rfl⟩
    have e : List.take (⟨ds, ok⟩ : Src).ds.length ds = ds := List.take_length
    rw [e]; exact q
theorem onO_of {α : Type} {o : Option α} {a : α} {p : α → Prop} (e : o = some a) (h : p a) : onO o p := ⟨a, e, h⟩
theorem ok_lcMapS {src : M Src} {S0 : Sg} {n : Nat} {e : M D} {Q : Cell → Sg → Prop} {ds : List D} {ok : Sg → Prop} {f : D → D} (hs : ∀ P : Src → Sg → Prop, P ⟨ds, ok⟩ ⟨sl, g⟩ → Ok (src S0) P) (hn : n < sl.length) (hno : noOwn sl [n] = true)
    (hok : ok ⟨sl, g⟩) (hl : ds.length ≤ sizeLine)
    (he : ∀ d ∈ ds, ∀ P : D → Sg → Prop, P (f d) ⟨sl.set n (.val d), g⟩ → Ok (e ⟨sl.set n (.val d), g⟩) P) (q : Q (.lst (ds.map f)) ⟨sl, g⟩) : Ok (lcM src (.nm n) [n] yesM e S0) Q := by
  show Ok (lcM (fun _ => src S0) (.nm n) [n] yesM e ⟨sl, g⟩) Q
  exact ok_lcMap hn hno hs hok hl he q
theorem cut_map {α : Type} {f : α → D} {ns : List α} {lo hi : Option Int} : ∃ es : List α, cutD (ns.map f) lo hi = List.map f es :=
  ⟨(ns.drop (HT.sIx (ns.map f).length 0 lo)).take (HT.sIx (ns.map f).length (ns.map f).length hi - HT.sIx (ns.map f).length 0 lo), by unfold cutD; rw [List.map_take, List.map_drop]⟩
end
end Mm
end

section
/-! MmW: a table by unlike ints; isinstance of what is known. -/
namespace Mm
open PySem L2
section
variable {S : Sg} {sl : List Slot} {g : G} {d x y : D} {i j : Int}
theorem putA_new {κ α : Type} [DecidableEq κ] {kvs : List (κ × α)} {k : κ} {v : α} (h : k ∉ kvs.map (·.1)) : putA kvs k v = kvs ++ [(k, v)] := by
  unfold putA
  rw [if_neg]
  rw [List.any_eq_true]
  rintro ⟨kv, h1, h2⟩
  exact h (List.mem_map.mpr ⟨kv, h1, of_decide_eq_true h2⟩)
theorem ok_dcInts {src : M Src} {S0 : Sg} {n : Nat} {v : D} {Q : Cell → Sg → Prop} {ns : List Int} {ok : Sg → Prop} (hs : ∀ P : Src → Sg → Prop, P ⟨ns.map D.int, ok⟩ ⟨sl, g⟩ → Ok (src S0) P) (hn : n < sl.length) (hno : noOwn sl [n] = true)
    (hok : ok ⟨sl, g⟩) (hl : ns.length ≤ sizeLine) (hnd : ns.Nodup) (q : Q (.dK (ns.map fun z => (Sum.inl z, v))) ⟨sl, g⟩) : Ok (dcM src (.nm n) [n] yesM (rd n) (ret v) S0) Q := by
  unfold dcM
  rw [ok_bd]
  refine hs _ ?_
  rw [if_pos ⟨hno, fun i hi => by simpa only [Tg.ix] using hi⟩, ok_bind]
  simp only [ok_ret]
  have go : ∀ (ms : List Int) (pre : List Int), pre ++ ms = ns → Ok (dcG (.nm n) [n] yesM (rd n) (ret v) ok (ms.map D.int) (pre.map fun z => (Sum.inl z, v)) ⟨sl, g⟩) fun acc S => Q (.dK acc) S := by
    intro ms
    induction ms with
    | nil =>
      intro pre e
      simp only [List.append_nil] at e
      subst e
      simp only [List.map_nil, dcG, if_pos hok]
      exact ok_ok.mpr q
    | cons m ms ih =>
      intro pre e
      have e1 : asg (.nm n) (.int m) (inner [n] ⟨sl, g⟩) = some ⟨sl.set n (.val (.int m)), g⟩ := by simp only [asg]; exact congrArg some inner1
      have e2 : rd n ⟨sl.set n (.val (.int m)), g⟩ = .ok (.int m) ⟨sl.set n (.val (.int m)), g⟩ := by
        unfold rd
        simp only [List.getElem?_set_self hn]
      have e3 : (yesM ⟨sl.set n (.val (.int m)), g⟩ : R Bool) = .ok true ⟨sl.set n (.val (.int m)), g⟩ := rfl
      have e4 : outer [n] ⟨sl, g⟩ ⟨sl.set n (.val (.int m)), g⟩ = ⟨sl, g⟩ := outer1 hn
      have hlt : pre.length < sizeLine := by
        have := congrArg List.length e
        simp at this
        omega
      have hnew : (Sum.inl m : Key) ∉ ((pre.map fun z => ((Sum.inl z : Key), v)).map (·.1)) := by
        intro h
        rw [List.map_map] at h
        obtain ⟨z, hz, ez⟩ := List.mem_map.mp h
        have ez : z = m := by simpa using ez
        subst ez
        rw [← e, List.nodup_append] at hnd
        exact hnd.2.2 z hz z (by simp) rfl
      have ih2 := ih (pre ++ [m]) (by rw [List.append_assoc]; exact e)
      have hp : putA (pre.map fun z => ((Sum.inl z : Key), v)) (Sum.inl m) v = (pre ++ [m]).map fun z => ((Sum.inl z : Key), v) := by rw [putA_new hnew, List.map_append]; rfl
      simp only [List.map_cons, dcG, if_pos hok, e1, e3, e2, ret, keyD, List.length_map, if_pos hlt, e4, hp]
      exact ih2
  exact go ns [] rfl
@[simp] theorem ok_lenDK {Q : D → Sg → Prop} {kvs : List (Key × D)} : Ok (lenC (.dK kvs) S) Q ↔ Q (.int kvs.length) S := ok_ok
/-! ### isinstance -/
variable {fns cls : List Str}
theorem isi_of {Q : D → Sg → Prop} {a b : M D} : Ok (isiM fns cls a b S) Q ↔ Ok (a S) fun x S1 => Ok (b S1) fun y S2 => Ok (isiF fns cls [x, y] S2) Q := by
  unfold isiM
  simp only [ok_bd, ok_consM, ok_nilM]
theorem isi_int {t : String} (ht : t ∈ known) : isiF fns cls [.int i, .ty t] S = .ok (.bl (isT "int" t)) S := by
  simp [isiF, tyD, clD, ht, kitT]
theorem isi_bl {b : Bool} {t : String} (ht : t ∈ known) : isiF fns cls [.bl b, .ty t] S = .ok (.bl (isT "bool" t)) S := by
  simp [isiF, tyD, clD, ht, kitT]
def isL (b : Bool) : String := if b = true then "list" else "tuple"
theorem isi_seq {v : Vw} {t : String} (h : vwD S d = some v) (ht : t ∈ known) : isiF fns cls [d, .ty t] S = .ok (.bl (isT (isL v.1) t)) S := by
  cases d with
  | lst xs => simp at h; subst h; simp [isiF, tyD, clD, ht, kitT, isL]
  | tup xs => simp at h; subst h; simp [isiF, tyD, clD, ht, kitT, isL]
  | box r =>
    unfold vwD at h
    cases e : S.g.cs r with
    | none => simp [e] at h
    | some c => cases c <;> simp [e] at h; subst h; simp [isiF, tyD, clD, ht, kitT, isL, e]
  | _ => simp [vwD] at h
theorem isi_seqs {v : Vw} (h : vwD S d = some v) : isiF fns cls [d, .tup [.ty "list", .ty "tuple"]] S = .ok (.bl true) S := by
  have k1 : "list" ∈ known := by decide
  have k2 : "tuple" ∈ known := by decide
  have t1 : isT "list" "list" = true := by decide
  have t2 : isT "tuple" "list" = false := by decide
  have t3 : isT "tuple" "tuple" = true := by decide
  cases d with
  | lst xs => simp [isiF, tyD, clDs, clD, k1, k2, kitTs, kitT, t1]
  | tup xs => simp [isiF, tyD, clDs, clD, k1, k2, kitTs, kitT, t2, t3]
  | box r =>
    unfold vwD at h
    cases e : S.g.cs r with
    | none => simp [e] at h
    | some c => cases c <;> simp [e] at h; simp [isiF, tyD, clDs, clD, k1, k2, kitTs, kitT, t1, e]
  | _ => simp [vwD] at h
theorem isi_seqs_int : isiF fns cls [.int i, .tup [.ty "list", .ty "tuple"]] S = .ok (.bl false) S := by
  have k1 : "list" ∈ known := by decide
  have k2 : "tuple" ∈ known := by decide
  have t1 : isT "int" "list" = false := by decide
  have t2 : isT "int" "tuple" = false := by decide
  simp [isiF, tyD, clDs, clD, k1, k2, kitTs, kitT, t1, t2]
end
end Mm
end

section
namespace Lw
open PySem L2 Mm
open PyProof.Rows (envOfC)
def top (i : Nat) : Stmt := PySem.Challenge.pw_waysthatcross_k01_whole_books_made.main.body.getD i (.Pass ⟨0, 0, 0, 0⟩)
def fns : List Str := ["_law_pick"]
def clss : List Str := ["Book"]

abbrev s_is_integer : Stmt := top 1
abbrev N_is_integer : List Str := ["thing"]
theorem sc_is_integer : FnScope N_is_integer ["thing"] (defScope s_is_integer) := ⟨rfl, rfl, rfl, by decide +kernel, rfl, by decide +kernel, by decide +kernel⟩
abbrev s_is_number : Stmt := top 2
abbrev N_is_number : List Str := ["thing"]
theorem sc_is_number : FnScope N_is_number ["thing"] (defScope s_is_number) := ⟨rfl, rfl, rfl, by decide +kernel, rfl, by decide +kernel, by decide +kernel⟩
abbrev s_is_list : Stmt := top 3
abbrev N_is_list : List Str := ["thing"]
theorem sc_is_list : FnScope N_is_list ["thing"] (defScope s_is_list) := ⟨rfl, rfl, rfl, by decide +kernel, rfl, by decide +kernel, by decide +kernel⟩
abbrev s_are_unlike : Stmt := top 4
abbrev N_are_unlike : List Str := ["thing", "bound", "one"]
theorem sc_are_unlike : FnScope N_are_unlike ["thing", "bound"] (defScope s_are_unlike) := ⟨rfl, rfl, rfl, by decide +kernel, rfl, by decide +kernel, by decide +kernel⟩
abbrev cs_are_unlike_0 : Scope := { kind := .function, names := [(PySem.Str.ofString ".0", .local), (PySem.Str.ofString "one", .local), (PySem.Str.ofString "is_number", .globalImplicit), (PySem.Str.ofString "bound", .free)], isGenerator := false, isCoroutine := false, more := [] }
abbrev cs_are_unlike_1 : Scope := { kind := .function, names := [(PySem.Str.ofString ".0", .local), (PySem.Str.ofString "one", .local)], isGenerator := false, isCoroutine := false, more := [] }
abbrev s_first_bad_way : Stmt := top 10
abbrev N_first_bad_way : List Str := ["gates", "ways", "known", "index", "thing"]
theorem sc_first_bad_way : FnScope N_first_bad_way ["gates", "ways"] (defScope s_first_bad_way) := ⟨rfl, rfl, rfl, by decide +kernel, rfl, by decide +kernel, by decide +kernel⟩
abbrev s_Book_init : Stmt := inClass (top 11) 0
abbrev N_Book_init : List Str := ["self", "gates", "ways", "wrong", "row"]
theorem sc_Book_init : FnScope N_Book_init ["self", "gates", "ways"] (defScope s_Book_init) := ⟨rfl, rfl, rfl, by decide +kernel, rfl, by decide +kernel, by decide +kernel⟩
abbrev cs_Book_init_0 : Scope := { kind := .function, names := [(PySem.Str.ofString ".0", .local), (PySem.Str.ofString "row", .local), (PySem.Str.ofString "list", .globalImplicit)], isGenerator := false, isCoroutine := false, more := [] }
abbrev s_Book_gates : Stmt := inClass (top 11) 1
abbrev N_Book_gates : List Str := ["self"]
theorem sc_Book_gates : FnScope N_Book_gates ["self"] (defScope s_Book_gates) := ⟨rfl, rfl, rfl, by decide +kernel, rfl, by decide +kernel, by decide +kernel⟩
abbrev s_Book_ways : Stmt := inClass (top 11) 2
abbrev N_Book_ways : List Str := ["self", "row"]
theorem sc_Book_ways : FnScope N_Book_ways ["self"] (defScope s_Book_ways) := ⟨rfl, rfl, rfl, by decide +kernel, rfl, by decide +kernel, by decide +kernel⟩
abbrev cs_Book_ways_0 : Scope := { kind := .function, names := [(PySem.Str.ofString ".0", .local), (PySem.Str.ofString "row", .local), (PySem.Str.ofString "list", .globalImplicit)], isGenerator := false, isCoroutine := false, more := [] }
abbrev s_Book_eq : Stmt := inClass (top 11) 3
abbrev N_Book_eq : List Str := ["self", "other"]
theorem sc_Book_eq : FnScope N_Book_eq ["self", "other"] (defScope s_Book_eq) := ⟨rfl, rfl, rfl, by decide +kernel, rfl, by decide +kernel, by decide +kernel⟩
abbrev s_l_stream : Stmt := top 13
abbrev N_l_stream : List Str := ["_law_script"]
theorem sc_l_stream : FnScope N_l_stream ["_law_script"] (defScope s_l_stream) := ⟨rfl, rfl, rfl, by decide +kernel, rfl, by decide +kernel, by decide +kernel⟩
abbrev s_l_draw : Stmt := top 14
abbrev N_l_draw : List Str := ["_law_stream_here", "_law_many", "_law_cell", "_law_digit", "_law_mixed_here"]
theorem sc_l_draw : FnScope N_l_draw ["_law_stream_here", "_law_many"] (defScope s_l_draw) := ⟨rfl, rfl, rfl, by decide +kernel, rfl, by decide +kernel, by decide +kernel⟩
abbrev s_l_pick : Stmt := top 15
abbrev N_l_pick : List Str := ["_law_stream_here", "_law_things"]
theorem sc_l_pick : FnScope N_l_pick ["_law_stream_here", "_law_things"] (defScope s_l_pick) := ⟨rfl, rfl, rfl, by decide +kernel, rfl, by decide +kernel, by decide +kernel⟩
abbrev s_l_mixed : Stmt := top 16
abbrev N_l_mixed : List Str := ["_law_stream_here", "_law_things", "_law_left", "_law_found", "_law_k"]
theorem sc_l_mixed : FnScope N_l_mixed ["_law_stream_here", "_law_things"] (defScope s_l_mixed) := ⟨rfl, rfl, rfl, by decide +kernel, rfl, by decide +kernel, by decide +kernel⟩
abbrev s_l_same : Stmt := top 17
abbrev N_l_same : List Str := ["_law_found", "_law_due", "_law_mine", "_law_theirs"]
theorem sc_l_same : FnScope N_l_same ["_law_found", "_law_due"] (defScope s_l_same) := ⟨rfl, rfl, rfl, by decide +kernel, rfl, by decide +kernel, by decide +kernel⟩
abbrev cs_l_same_0 : Scope := { kind := .function, names := [(PySem.Str.ofString ".0", .local), (PySem.Str.ofString "_law_mine", .local), (PySem.Str.ofString "_law_theirs", .local), (PySem.Str.ofString "_law_same", .globalImplicit)], isGenerator := false, isCoroutine := false, more := [] }
abbrev s_l_loose : Stmt := top 18
abbrev N_l_loose : List Str := ["_law_stream_here", "_law_thing", "_law_some", "_law_one"]
theorem sc_l_loose : FnScope N_l_loose ["_law_stream_here", "_law_thing"] (defScope s_l_loose) := ⟨rfl, rfl, rfl, by decide +kernel, rfl, by decide +kernel, by decide +kernel⟩
abbrev cs_l_loose_0 : Scope := { kind := .function, names := [(PySem.Str.ofString ".0", .local), (PySem.Str.ofString "_law_one", .local), (PySem.Str.ofString "_law_loose", .globalImplicit), (PySem.Str.ofString "_law_stream_here", .free)], isGenerator := false, isCoroutine := false, more := [] }
abbrev s_l_lack : Stmt := top 19
abbrev N_l_lack : List Str := ["_law_rows_here", "_law_one", "_law_row", "_law_gate", "_law_ahead", "_law_other", "_law_late", "_law_lot", "_law_some", "_law_part"]
theorem sc_l_lack : FnScope N_l_lack ["_law_rows_here"] (defScope s_l_lack) := ⟨rfl, rfl, rfl, by decide +kernel, rfl, by decide +kernel, by decide +kernel⟩
abbrev cs_l_lack_0 : Scope := { kind := .function, names := [(PySem.Str.ofString ".0", .local), (PySem.Str.ofString "_law_some", .local), (PySem.Str.ofString "all", .globalImplicit), (PySem.Str.ofString "_law_lot", .free)], isGenerator := false, isCoroutine := false, more := [] }
abbrev cs_l_lack_1 : Scope := { kind := .function, names := [(PySem.Str.ofString ".0", .local), (PySem.Str.ofString "_law_part", .local), (PySem.Str.ofString "_law_lot", .free)], isGenerator := false, isCoroutine := false, more := [] }
abbrev s_l_leaped : Stmt := top 20
abbrev N_l_leaped : List Str := ["_law_stream_here", "_law_things", "_law_top", "_law_many", "_law_is_chain", "_law_inner", "_law_found", "_law_k", "_law_row", "_law_one", "_law_other", "_law_gate"]
theorem sc_l_leaped : FnScope N_l_leaped ["_law_stream_here", "_law_things", "_law_top"] (defScope s_l_leaped) := ⟨rfl, rfl, rfl, by decide +kernel, rfl, by decide +kernel, by decide +kernel⟩
abbrev cs_l_leaped_0 : Scope := { kind := .function, names := [(PySem.Str.ofString ".0", .local), (PySem.Str.ofString "_law_gate", .local), (PySem.Str.ofString "_law_inner", .free), (PySem.Str.ofString "_law_other", .free)], isGenerator := false, isCoroutine := false, more := [] }
abbrev s_l_trails : Stmt := top 21
abbrev N_l_trails : List Str := ["_law_here", "_law_ends", "_law_roads", "_law_met", "_law_row", "_law_found", "_law_number", "_law_one", "_law_other"]
theorem sc_l_trails : FnScope N_l_trails ["_law_here", "_law_ends", "_law_roads", "_law_met", "_law_row"] (defScope s_l_trails) := ⟨rfl, rfl, rfl, by decide +kernel, rfl, by decide +kernel, by decide +kernel⟩
abbrev s_l_webbed : Stmt := top 22
abbrev N_l_webbed : List Str := ["_law_stream_here", "_law_places", "_law_roads", "_law_is_places", "_law_drawn", "_law_k", "_law_order", "_law_cut", "_law_begins", "_law_ends", "_law_found", "_law_here", "_law_row", "_law_number"]
theorem sc_l_webbed : FnScope N_l_webbed ["_law_stream_here", "_law_places", "_law_roads", "_law_is_places"] (defScope s_l_webbed) := ⟨rfl, rfl, rfl, by decide +kernel, rfl, by decide +kernel, by decide +kernel⟩
abbrev cs_l_webbed_0 : Scope := { kind := .function, names := [(PySem.Str.ofString ".0", .local), (PySem.Str.ofString "_law_row", .local), (PySem.Str.ofString "_law_drawn", .free)], isGenerator := false, isCoroutine := false, more := [] }
abbrev cs_l_webbed_1 : Scope := { kind := .function, names := [(PySem.Str.ofString ".0", .local), (PySem.Str.ofString "_law_number", .local), (PySem.Str.ofString "_law_drawn", .free)], isGenerator := false, isCoroutine := false, more := [] }
abbrev s_l_each_once : Stmt := top 23
abbrev N_l_each_once : List Str := ["_law_some", "_law_found", "_law_thing"]
theorem sc_l_each_once : FnScope N_l_each_once ["_law_some"] (defScope s_l_each_once) := ⟨rfl, rfl, rfl, by decide +kernel, rfl, by decide +kernel, by decide +kernel⟩
abbrev s_l_shifted : Stmt := top 24
abbrev N_l_shifted : List Str := ["_law_rows_here", "_law_far", "_law_row", "_law_gate"]
theorem sc_l_shifted : FnScope N_l_shifted ["_law_rows_here", "_law_far"] (defScope s_l_shifted) := ⟨rfl, rfl, rfl, by decide +kernel, rfl, by decide +kernel, by decide +kernel⟩
abbrev cs_l_shifted_0 : Scope := { kind := .function, names := [(PySem.Str.ofString ".0", .local), (PySem.Str.ofString "_law_row", .local), (PySem.Str.ofString "_law_far", .free)], isGenerator := false, isCoroutine := false, more := [] }
abbrev cs_l_shifted_1 : Scope := { kind := .function, names := [(PySem.Str.ofString ".0", .local), (PySem.Str.ofString "_law_gate", .local), (PySem.Str.ofString "_law_far", .free)], isGenerator := false, isCoroutine := false, more := [] }
abbrev s_l_joined : Stmt := top 25
abbrev N_l_joined : List Str := ["_law_stream_here", "_law_one", "_law_other", "_law_gates", "_law_rows_here", "_law_more", "_law_lates", "_law_way", "_law_late", "_law_gate", "_law_found", "_law_row", "_law_at", "_law_tail"]
theorem sc_l_joined : FnScope N_l_joined ["_law_stream_here", "_law_one", "_law_other"] (defScope s_l_joined) := ⟨rfl, rfl, rfl, by decide +kernel, rfl, by decide +kernel, by decide +kernel⟩
abbrev cs_l_joined_0 : Scope := { kind := .function, names := [(PySem.Str.ofString ".0", .local), (PySem.Str.ofString "_law_tail", .local), (PySem.Str.ofString "_law_row", .free)], isGenerator := false, isCoroutine := false, more := [] }
abbrev cs_l_joined_1 : Scope := { kind := .function, names := [(PySem.Str.ofString ".0", .local), (PySem.Str.ofString "_law_tail", .local), (PySem.Str.ofString "_law_at", .free), (PySem.Str.ofString "_law_row", .free)], isGenerator := false, isCoroutine := false, more := [] }
abbrev s_l_drawn_book : Stmt := top 26
abbrev N_l_drawn_book : List Str := ["_law_stream_here", "_law_small", "_law_way"]
theorem sc_l_drawn_book : FnScope N_l_drawn_book ["_law_stream_here", "_law_small"] (defScope s_l_drawn_book) := ⟨rfl, rfl, rfl, by decide +kernel, rfl, by decide +kernel, by decide +kernel⟩
abbrev s_l_fitting : Stmt := top 27
abbrev N_l_fitting : List Str := ["_law_stream_here", "_law_gates", "_law_ways", "_law_best", "_law_turn", "_law_small", "_law_found"]
theorem sc_l_fitting : FnScope N_l_fitting ["_law_stream_here", "_law_gates", "_law_ways"] (defScope s_l_fitting) := ⟨rfl, rfl, rfl, by decide +kernel, rfl, by decide +kernel, by decide +kernel⟩
abbrev s_l_book : Stmt := top 28
abbrev N_l_book : List Str := ["_law_stream_here", "_law_gates", "_law_ways", "_law_many", "_law_drawn", "_law_called", "_law_row", "_law_rows_here", "_law_k", "_law_gate"]
theorem sc_l_book : FnScope N_l_book ["_law_stream_here", "_law_gates", "_law_ways"] (defScope s_l_book) := ⟨rfl, rfl, rfl, by decide +kernel, rfl, by decide +kernel, by decide +kernel⟩
abbrev cs_l_book_0 : Scope := { kind := .function, names := [(PySem.Str.ofString ".0", .local), (PySem.Str.ofString "_law_row", .local), (PySem.Str.ofString "_law_called", .free)], isGenerator := false, isCoroutine := false, more := [] }
abbrev cs_l_book_1 : Scope := { kind := .function, names := [(PySem.Str.ofString ".0", .local), (PySem.Str.ofString "_law_gate", .local), (PySem.Str.ofString "_law_called", .free)], isGenerator := false, isCoroutine := false, more := [] }
abbrev s_l_rows : Stmt := top 29
abbrev N_l_rows : List Str := ["_law_stream_here", "_law_gates", "_law_many", "_law_found", "_law_k", "_law_row"]
theorem sc_l_rows : FnScope N_l_rows ["_law_stream_here", "_law_gates", "_law_many"] (defScope s_l_rows) := ⟨rfl, rfl, rfl, by decide +kernel, rfl, by decide +kernel, by decide +kernel⟩
abbrev s_l_told_right : Stmt := top 30
abbrev N_l_told_right : List Str := ["_law_stream_here", "_law_gates", "_law_rows_here", "_law_handed", "_law_row", "_law_held", "_law_made", "_law_other", "_law_told"]
theorem sc_l_told_right : FnScope N_l_told_right ["_law_stream_here", "_law_gates", "_law_rows_here"] (defScope s_l_told_right) := ⟨rfl, rfl, rfl, by decide +kernel, rfl, by decide +kernel, by decide +kernel⟩
abbrev cs_l_told_right_0 : Scope := { kind := .function, names := [(PySem.Str.ofString ".0", .local), (PySem.Str.ofString "_law_row", .local), (PySem.Str.ofString "list", .globalImplicit)], isGenerator := false, isCoroutine := false, more := [] }
abbrev s_l_unlike_right : Stmt := top 31
abbrev N_l_unlike_right : List Str := ["_law_stream_here", "_law_gates", "_law_rows_here", "_law_made", "_law_others", "_law_at", "_law_row", "_law_things", "_law_other", "_law_thing"]
theorem sc_l_unlike_right : FnScope N_l_unlike_right ["_law_stream_here", "_law_gates", "_law_rows_here"] (defScope s_l_unlike_right) := ⟨rfl, rfl, rfl, by decide +kernel, rfl, by decide +kernel, by decide +kernel⟩
abbrev cs_l_unlike_right_0 : Scope := { kind := .function, names := [(PySem.Str.ofString ".0", .local), (PySem.Str.ofString "_law_other", .local), (PySem.Str.ofString "_law_made", .free)], isGenerator := false, isCoroutine := false, more := [] }
abbrev cs_l_unlike_right_1 : Scope := { kind := .function, names := [(PySem.Str.ofString ".0", .local), (PySem.Str.ofString "_law_thing", .local), (PySem.Str.ofString "_law_made", .free)], isGenerator := false, isCoroutine := false, more := [] }
abbrev s_law : Stmt := top 32
abbrev N_law : List Str := ["_law_script", "_law_stream_here", "_law_turn", "_law_gates", "_law_rows_here", "_law_empty"]
theorem sc_law : FnScope N_law ["_law_script"] (defScope s_law) := ⟨rfl, rfl, rfl, by decide +kernel, rfl, by decide +kernel, by decide +kernel⟩
/-! ### the mirrors -/
noncomputable def b_is_integer : M Fl :=
  (retM (andV (isiM fns clss (rd 0) (ret (.ty "int"))) (notV (isiM fns clss (rd 0) (ret (.ty "bool"))))))
noncomputable def m_is_integer : F := runF 1 b_is_integer
noncomputable def b_is_number : M Fl :=
  (retM (andV (callM m_is_integer (consM (rd 0) nilM)) (bop geI (rd 0) (ret (.int 0)))))
noncomputable def m_is_number : F := runF 1 b_is_number
noncomputable def b_is_list : M Fl :=
  (retM (isiM fns clss (rd 0) (tupM (consM (ret (.ty "list")) (consM (ret (.ty "tuple")) nilM)))))
noncomputable def m_is_list : F := runF 1 b_is_list
noncomputable def b_are_unlike : M Fl :=
  (seqM (ifM (orM (notM (bd (callM m_is_list (consM (rd 0) nilM)) asB)) (notM (bd (h1 (hdE (bd (lcM (bd (rd 0) itemsD) (.nm 2) [2] yesM (andV (callM m_is_number (consM (rd 2) nilM)) (bop ltI (rd 2) (rd 1)))) frzC)) allF) asB)))
  (retM (ret (.bl false)))
  (ret .nx))
  (retM (bop eqM (bd (dcM (bd (rd 0) itemsD) (.nm 2) [2] yesM (rd 2) (ret (.bl true))) lenC) (h1 (hdN 0) lenF))))
noncomputable def m_are_unlike : F := runF 3 b_are_unlike
noncomputable def b_first_bad_way : M Fl :=
  (seqM (ifM (notM (bd (callM m_is_list (consM (rd 1) nilM)) asB))
  (retM (ret (.int 0)))
  (ret .nx))
  (seqM (ownM 2 (lstM nilM))
  (seqM (bd (bd (rd 1) enumS) (forM (.tp [(.nm 3), (.nm 4)])
  (seqM (ifM (orM (notM (bd (callM m_are_unlike (consM (rd 4) (consM (rd 0) nilM))) asB)) (orM (bopT eqM (h1 (hdN 4) lenF) (ret (.int 0))) (bd (inM false (bd (h1C (hdN 4) listF) frzC) (hdN 2)) asB)))
  (retM (rd 3))
  (ret .nx))
  (exprM (mutM appF (plN 2) (consM (bd (h1C (hdN 4) listF) frzC) nilM))))))
  (retM (ret .non)))))
noncomputable def m_first_bad_way : F := runF 5 b_first_bad_way
noncomputable def b_Book_init : M Fl :=
  (seqM (ifM (notM (bd (callM m_is_number (consM (rd 1) nilM)) asB))
  nope
  (ret .nx))
  (seqM (setM 3 (callM m_first_bad_way (consM (rd 1) (consM (rd 2) nilM))))
  (seqM (ifM (notNT (rd 3))
  nope
  (ret .nx))
  (seqM (setFldM ["Book"] "own_gates" (rd 1) (rd 0))
  (seqM (setFldM ["Book"] "own_ways" (bd (lcM (bd (rd 2) itemsD) (.nm 4) [4] yesM (bd (h1C (hdN 4) listF) frzC)) frzC) (rd 0))
  (setFldM ["Book"] "own_known" (bd (ret (.dK [])) boxC) (rd 0)))))))
noncomputable def m_Book_init : F := runF 5 b_Book_init
noncomputable def b_Book_gates : M Fl :=
  (retM (fldM ["Book"] "own_gates" (rd 0)))
noncomputable def m_Book_gates : F := runF 1 b_Book_gates
noncomputable def b_Book_ways : M Fl :=
  (retM (bd (lcM (bd (fldM ["Book"] "own_ways" (rd 0)) itemsD) (.nm 1) [1] yesM (bd (h1C (hdN 1) listF) boxC)) boxC))
noncomputable def m_Book_ways : F := runF 2 b_Book_ways
noncomputable def b_Book_eq : M Fl :=
  (seqM (ifM (notM (bd (isiM fns clss (rd 1) (ret (.glo "Book"))) asB))
  (retM (ret (.bl false)))
  (ret .nx))
  (retM (andV (bop eqM (fldM ["Book"] "own_gates" (rd 0)) (fldM ["Book"] "own_gates" (rd 1))) (bop eqM (fldM ["Book"] "own_ways" (rd 0)) (fldM ["Book"] "own_ways" (rd 1))))))
noncomputable def m_Book_eq : F := runF 2 b_Book_eq
noncomputable def b_l_stream : M Fl :=
  (retM (bd (lstM (consM (bd (bd (rd 0) scrF) boxC) (consM (ret (.int 0)) (consM (ret (.int 0)) (consM (ret (.int 17)) nilM))))) boxC))
noncomputable def m_l_stream : F := runF 1 b_l_stream
noncomputable def b_l_draw : M Fl :=
  (seqM (setIxM (bop addI (ixM (hdN 0) (ret (.int 2))) (ret (.int 1))) (plN 0) (ret (.int 2)))
  (seqM (whM (andM (bopT eqM (ixM (hdN 0) (ret (.int 1))) (ret (.int 0))) (bd (eqHM true (hdE (ixM (hdN 0) (ret (.int 0)))) (hdE (bd (lstM nilM) frzC))) asB))
  (seqM (setM 2 (v1 (mutM popAtF (plE (ixM (hdN 0) (ret (.int 0)))) (consM (ret (.int 0)) nilM)) absF))
  (seqM (setIxM (bop modI (v1 (bop addI (bop addI (bop mulI (ixM (hdN 0) (ret (.int 3))) (ret (.int 8191))) (rd 2)) (ret (.int 3))) intF) (ret (.int 2147483647))) (plN 0) (ret (.int 3)))
  (setIxM (ifM (bopT geI (rd 2) (bop powI (ret (.int 10)) (ret (.int 18)))) (rd 2) (ret (.int 0))) (plN 0) (ret (.int 1))))))
  (seqM (ifM (bopT gtI (ixM (hdN 0) (ret (.int 1))) (ret (.int 0)))
  (seqM (setM 3 (bop modI (v1 (ixM (hdN 0) (ret (.int 1))) intF) (rd 1)))
  (seqM (setIxM (bop divI (ixM (hdN 0) (ret (.int 1))) (rd 1)) (plN 0) (ret (.int 1)))
  (retM (rd 3))))
  (ret .nx))
  (seqM (setM 4 (bop modI (v1 (bop powI (bop addI (bop addI (ixM (hdN 0) (ret (.int 3))) (bop mulI (ret (.int 7919)) (ixM (hdN 0) (ret (.int 2))))) (ret (.int 104729))) (ret (.int 5))) intF) (ret (.int 2147483629))))
  (retM (bop modI (bop modI (v1 (bop powI (bop addI (bop addI (bop mulI (rd 4) (ret (.int 48271))) (bop mulI (ret (.int 30011)) (ixM (hdN 0) (ret (.int 2))))) (ret (.int 29))) (ret (.int 3))) intF) (ret (.int 1000000007))) (rd 1)))))))
noncomputable def m_l_draw : F := runF 5 b_l_draw
noncomputable def b_l_pick : M Fl :=
  (retM (ixM (hdN 1) (callM m_l_draw (consM (rd 0) (consM (h1 (hdN 1) lenF) nilM)))))
noncomputable def m_l_pick : F := runF 2 b_l_pick
noncomputable def b_l_mixed : M Fl :=
  (seqM (parM [2, 3] (pOwn (h1C (hdN 1) listF) (pOwn (lstM nilM) pNil)))
  (seqM (bd (bd (h1 (hdN 2) lenF) rng1) (forM (.nm 4)
  (exprM (mutM appF (plN 3) (consM (mutM popAtF (plN 2) (consM (callM m_l_draw (consM (rd 0) (consM (h1 (hdN 2) lenF) nilM))) nilM)) nilM)))))
  (retM (rdB 3))))
noncomputable def m_l_mixed : F := runF 5 b_l_mixed
noncomputable def b_l_same (rec : F) : M Fl :=
  (seqM (ifM (bd (isiM fns clss (rd 1) (tupM (consM (ret (.ty "list")) (consM (ret (.ty "tuple")) nilM)))) asB)
  (seqM (ifM (orM (bopT neM (isiM fns clss (rd 0) (ret (.ty "list"))) (isiM fns clss (rd 1) (ret (.ty "list")))) (bopT neM (isiM fns clss (rd 0) (ret (.ty "tuple"))) (isiM fns clss (rd 1) (ret (.ty "tuple")))))
  (retM (ret (.bl false)))
  (ret .nx))
  (retM (andV (bop eqM (h1 (hdN 0) lenF) (h1 (hdN 1) lenF)) (h1 (hdE (bd (lcM (bd (rd 0) fun x => bd (rd 1) fun y => zipS x y) (.tp [(.nm 2), (.nm 3)]) [2, 3] yesM (callM rec (consM (rd 2) (consM (rd 3) nilM)))) frzC)) allF))))
  (ret .nx))
  (seqM (ifM (bd (isiM fns clss (rd 1) (ret (.ty "dict"))) asB)
  nope
  (ret .nx))
  (seqM (ifM (orM (bd (isiM fns clss (rd 1) (ret (.ty "bool"))) asB) (bd (isiM fns clss (rd 0) (ret (.ty "bool"))) asB))
  (retM (andV (isiM fns clss (rd 1) (ret (.ty "bool"))) (andV (isiM fns clss (rd 0) (ret (.ty "bool"))) (bop eqM (rd 0) (rd 1)))))
  (ret .nx))
  (retM (andV (notV (isiM fns clss (rd 0) (tupM (consM (ret (.ty "list")) (consM (ret (.ty "tuple")) (consM (ret (.ty "dict")) nilM)))))) (bop eqM (rd 0) (rd 1)))))))
noncomputable def m_l_same : Nat → F
  | 0 => fun _ => nope
  | n + 1 => runF 4 (b_l_same (m_l_same n))
noncomputable def b_l_loose (rec : F) : M Fl :=
  (seqM (ifM (bd (isiM fns clss (rd 1) (tupM (consM (ret (.ty "list")) (consM (ret (.ty "tuple")) nilM)))) asB)
  (seqM (setM 2 (bd (lcM (bd (rd 1) itemsD) (.nm 3) [3] yesM (callM rec (consM (rd 0) (consM (rd 3) nilM)))) frzC))
  (retM (ifM (bopT eqM (callM m_l_draw (consM (rd 0) (consM (ret (.int 2)) nilM))) (ret (.int 0))) (rd 2) (h1 (hdN 2) (fun v => if v.1 = true then tupleF v else nope)))))
  (ret .nx))
  (retM (rd 1)))
noncomputable def m_l_loose : Nat → F
  | 0 => fun _ => nope
  | n + 1 => runF 4 (b_l_loose (m_l_loose n))
noncomputable def b_l_lack : M Fl :=
  (seqM (bd (bd (rd 0) enumS) (forM (.tp [(.nm 1), (.nm 2)])
  (bd (bd (bd (h1C (hdN 2) sortF) frzC) itemsD) (forM (.nm 3)
  (seqM (setM 4 (slM (hdN 2) (ret none) (bd (bop addI (indexM (hdN 2) (rd 3)) (ret (.int 1))) oint)))
  (bd (bd (rd 0) enumS) (forM (.tp [(.nm 5), (.nm 6)])
  (ifM (andM (bopT neM (rd 5) (rd 1)) (bd (inM false (rd 3) (hdN 6)) asB))
  (seqM (setM 7 (bd (catC (hdN 4) (hdE (slM (hdN 6) (bd (indexM (hdN 6) (rd 3)) oint) (ret none)))) frzC))
  (ifM (notM (bd (h1 (hdE (bd (lcM (bd (rd 0) itemsD) (.nm 8) [8] yesM (h1 (hdE (bd (lcM (bd (rd 8) itemsD) (.nm 9) [9] yesM (inM false (rd 9) (hdN 7))) frzC)) allF)) frzC)) anyF) asB))
  (retM (tupM (consM (rd 1) (consM (rd 3) (consM (rd 5) nilM)))))
  (ret .nx)))
  (ret .nx)))))))))
  (retM (ret .non)))
noncomputable def m_l_lack : F := runF 10 b_l_lack
noncomputable def b_l_leaped : M Fl :=
  (seqM (parM [3, 4] (pVal (bop addI (ret (.int 2)) (callM m_l_draw (consM (rd 0) (consM (bop subI (rd 2) (ret (.int 1))) nilM)))) (pVal (andV (bop gtI (rd 2) (ret (.int 2))) (bop eqM (callM m_l_draw (consM (rd 0) (consM (ret (.int 2)) nilM))) (ret (.int 0)))) pNil)))
  (seqM (parM [3, 1] (pVal (ifM (bd (rd 4) asB) (ret (.int 3)) (rd 3)) (pVal (ifM (bd (rd 4) asB) (ret (.int 2)) (rd 1)) pNil)))
  (seqM (asgM (.tp [(.nm 5), (.nm 6)]) (tupM (consM (bd (lstM nilM) boxC) (consM (bd (lstM nilM) boxC) nilM))))
  (seqM (bd (bd (rd 3) rng1) (forM (.nm 7)
  (seqM (setM 8 (slM (hdE (bd (callM m_l_mixed (consM (rd 0) (consM (bd (bd (rd 1) rngC1) frzC) nilM))) frzD)) (ret none) (bd (bop addI (ret (.int 1)) (callM m_l_draw (consM (rd 0) (consM (rd 1) nilM)))) oint)))
  (seqM (ifM (bd (rd 4) asB)
  (setM 8 (ixM (hdE (bd (lstM (consM (bd (lstM (consM (ret (.int 0)) nilM)) frzC) (consM (bd (callM m_l_mixed (consM (rd 0) (consM (bd (lstM (consM (ret (.int 0)) (consM (ret (.int 1)) nilM))) frzC) nilM))) frzD) (consM (bd (lstM (consM (ret (.int 1)) nilM)) frzC) nilM)))) frzC)) (rd 7)))
  (ret .nx))
  (seqM (exprM (mutM appF (plN 5) (consM (rd 8) nilM)))
  (exprM (mutM appF (plN 6) (consM (bd (catC (hdE (bd (catC (hdE (bd (lstM (consM (bop addI (rd 1) (bop mulI (ret (.int 2)) (rd 7))) nilM)) frzC)) (hdN 8)) frzC)) (hdE (bd (lstM (consM (bop addI (bop addI (rd 1) (bop mulI (ret (.int 2)) (rd 7))) (ret (.int 1))) nilM)) frzC))) frzC) nilM))))))))
  (seqM (bd (bd (rd 3) rng1) (forM (.nm 9)
  (bd (bd (rd 3) rng1) (forM (.nm 10)
  (ifM (andM (bopT neM (rd 9) (rd 10)) (bd (h1 (hdE (bd (lcM (bd (ixM (hdN 5) (rd 9)) itemsD) (.nm 11) [11] yesM (inM false (rd 11) (hdE (ixM (hdN 5) (rd 10))))) frzC)) anyF) asB))
  (exprM (mutM appF (plN 6) (consM (bd (lstM (consM (bop addI (rd 1) (bop mulI (ret (.int 2)) (rd 9))) (consM (bop addI (bop addI (rd 1) (bop mulI (ret (.int 2)) (rd 10))) (ret (.int 1))) nilM))) frzC) nilM)))
  (ret .nx))))))
  (retM (tupM (consM (bop addI (rd 1) (bop mulI (ret (.int 2)) (rd 3))) (consM (bd (rd 6) frzD) nilM)))))))))
noncomputable def m_l_leaped : F := runF 12 b_l_leaped
noncomputable def b_l_trails (rec : F) : M Fl :=
  (seqM (ownM 5 (ifM (andM (bd (inM false (rd 0) (hdN 1)) asB) (bopT neM (rd 4) (bd (lstM nilM) frzC))) (lstM (consM (rd 4) nilM)) (lstM nilM)))
  (seqM (bd (bd (rd 2) enumS) (forM (.tp [(.nm 6), (.tp [(.nm 7), (.nm 8)])])
  (ifM (andM (bopT eqM (rd 7) (rd 0)) (bd (inM true (rd 8) (hdN 3)) asB))
  (exprM (extM (plN 5) (hdE (callM rec (consM (rd 8) (consM (rd 1) (consM (rd 2) (consM (bd (catC (hdN 3) (hdE (bd (lstM (consM (rd 8) nilM)) frzC))) frzC) (consM (bd (catC (hdN 4) (hdE (bd (lstM (consM (rd 6) nilM)) frzC))) frzC) nilM)))))))))
  (ret .nx))))
  (retM (rd 5))))
noncomputable def m_l_trails : Nat → F
  | 0 => fun _ => nope
  | n + 1 => runF 9 (b_l_trails (m_l_trails n))
noncomputable def b_l_each_once : M Fl :=
  (seqM (ownM 1 (lstM nilM))
  (seqM (bd (bd (rd 0) itemsD) (forM (.nm 2)
  (exprM (extM (plN 1) (hdE (ifM (bd (inM true (rd 2) (hdN 1)) asB) (bd (lstM (consM (rd 2) nilM)) frzC) (bd (lstM nilM) frzC)))))))
  (retM (rd 1))))
noncomputable def m_l_each_once : F := runF 3 b_l_each_once
noncomputable def b_l_webbed : M Fl :=
  (seqM (ownM 4 (lstM nilM))
  (seqM (bd (bd (bop subI (rd 2) (callM m_l_draw (consM (rd 0) (consM (bop subI (rd 2) (ret (.int 1))) nilM)))) rng1) (forM (.nm 5)
  (exprM (mutM appF (plN 4) (consM (h1 (hdE (slM (hdE (bd (callM m_l_mixed (consM (rd 0) (consM (bd (bd (rd 1) rngC1) frzC) nilM))) frzD)) (ret none) (bd (ret (.int 2)) oint))) (fun v => if v.1 = true then tupleF v else nope)) nilM)))))
  (seqM (parM [6, 7] (pVal (bd (callM m_l_mixed (consM (rd 0) (consM (bd (bd (rd 1) rngC1) frzC) nilM))) frzD) (pVal (bop addI (ret (.int 1)) (callM m_l_draw (consM (rd 0) (consM (ret (.int 2)) nilM)))) pNil)))
  (seqM (parM [8, 9, 10] (pVal (slM (hdN 6) (ret none) (bd (rd 7) oint)) (pVal (slM (hdN 6) (bd (rd 7) oint) (bd (bop addI (bop addI (rd 7) (ret (.int 1))) (callM m_l_draw (consM (rd 0) (consM (ret (.int 2)) nilM)))) oint)) (pOwn (lstM nilM) pNil))))
  (seqM (bd (bd (rd 8) itemsD) (forM (.nm 11)
  (exprM (extM (plN 10) (hdE (callM (m_l_trails 60) (consM (rd 11) (consM (rd 9) (consM (rd 4) (consM (bd (lstM (consM (rd 11) nilM)) frzC) (consM (bd (lstM nilM) frzC) nilM)))))))))))
  (seqM (ifM (bd (rd 3) asB)
  (ownM 10 (lcM (bd (rd 10) itemsD) (.nm 12) [12] yesM (bd (catC (hdE (bd (lstM (consM (ixM (hdE (ixM (hdN 4) (ixM (hdN 12) (ret (.int 0))))) (ret (.int 0))) nilM)) frzC)) (hdE (bd (lcM (bd (rd 12) itemsD) (.nm 13) [13] yesM (ixM (hdE (ixM (hdN 4) (rd 13))) (ret (.int 1)))) frzC))) frzC)))
  (ret .nx))
  (retM (tupM (consM (ifM (bd (rd 3) asB) (rd 1) (h1 (hdN 4) lenF)) (consM (callM m_l_each_once (consM (rd 10) nilM)) nilM))))))))))
noncomputable def m_l_webbed : F := runF 14 b_l_webbed
noncomputable def b_l_shifted : M Fl :=
  (retM (bd (lcM (bd (rd 0) itemsD) (.nm 2) [2] yesM (bd (lcM (bd (rd 2) itemsD) (.nm 3) [3] yesM (bop addI (rd 3) (rd 1))) frzC)) frzC))
noncomputable def m_l_shifted : F := runF 4 b_l_shifted
noncomputable def b_l_joined : M Fl :=
  (seqM (asgM (.tp [(.tp [(.nm 3), (.nm 4)]), (.tp [(.nm 5), (.nm 6)]), (.nm 7)]) (tupM (consM (rd 1) (consM (rd 2) (consM (callM m_l_draw (consM (rd 0) (consM (ret (.int 3)) nilM))) nilM)))))
  (seqM (setM 8 (callM m_l_shifted (consM (rd 6) (consM (rd 3) nilM))))
  (seqM (ifM (bopT eqM (rd 7) (ret (.int 1)))
  (retM (tupM (consM (bop addI (rd 3) (rd 5)) (consM (bd (catC (hdN 4) (hdN 8)) frzC) nilM))))
  (ret .nx))
  (seqM (parM [9, 10] (pVal (callM m_l_draw (consM (rd 0) (consM (rd 3) nilM))) (pOwn (lstM nilM) pNil)))
  (seqM (bd (bd (rd 4) itemsD) (forM (.nm 11)
  (seqM (setM 12 (ifM (bd (inM false (rd 9) (hdN 11)) asB) (indexM (hdN 11) (rd 9)) (negM (ret (.int 1)))))
  (ifM (bopT eqM (rd 7) (ret (.int 0)))
  (exprM (extM (plN 10) (hdE (bd (lcM (bd (rd 8) itemsD) (.nm 13) [13] yesM (bd (catC (hdN 11) (hdN 13)) frzC)) frzC))))
  (exprM (extM (plN 10) (hdE (ifM (bopT ltI (rd 12) (ret (.int 0))) (bd (lstM (consM (rd 11) nilM)) frzC) (bd (lcM (bd (rd 8) itemsD) (.nm 13) [13] yesM (bd (catC (hdE (bd (catC (hdE (slM (hdN 11) (ret none) (bd (rd 12) oint))) (hdN 13)) frzC)) (hdE (slM (hdN 11) (bd (bop addI (rd 12) (ret (.int 1))) oint) (ret none)))) frzC)) frzC)))))))))
  (retM (tupM (consM (bop addI (rd 3) (rd 5)) (consM (rd 10) nilM)))))))))
noncomputable def m_l_joined : F := runF 14 b_l_joined
noncomputable def b_l_drawn_book : M Fl :=
  (seqM (setM 2 (callM m_l_draw (consM (rd 0) (consM (ret (.int 4)) nilM))))
  (seqM (ifM (bopT ltI (rd 2) (ret (.int 2)))
  (retM (callM m_l_leaped (consM (rd 0) (consM (bop addI (ret (.int 1)) (callM m_l_draw (consM (rd 0) (consM (ifM (bd (rd 1) asB) (ret (.int 2)) (ret (.int 4))) nilM)))) (consM (ifM (bd (rd 1) asB) (ret (.int 2)) (ret (.int 3))) nilM)))))
  (ret .nx))
  (retM (callM m_l_webbed (consM (rd 0) (consM (bop addI (ret (.int 3)) (callM m_l_draw (consM (rd 0) (consM (ifM (bd (rd 1) asB) (ret (.int 2)) (ret (.int 4))) nilM)))) (consM (ifM (bd (rd 1) asB) (ret (.int 4)) (ret (.int 9))) (consM (bop eqM (rd 2) (ret (.int 2))) nilM))))))))
noncomputable def m_l_drawn_book : F := runF 3 b_l_drawn_book
noncomputable def b_l_fitting : M Fl :=
  (seqM (setM 3 (tupM (consM (ret (.int 2)) (consM (bd (lstM (consM (bd (lstM (consM (ret (.int 0)) (consM (ret (.int 1)) nilM))) frzC) nilM)) frzC) nilM))))
  (seqM (bd (bd (ret (.int 6)) rng1) (forM (.nm 4)
  (seqM (setM 5 (bop eqM (callM m_l_draw (consM (rd 0) (consM (ret (.int 3)) nilM))) (ret (.int 0))))
  (seqM (setM 6 (callM m_l_drawn_book (consM (rd 0) (consM (rd 5) nilM))))
  (seqM (ifM (bd (rd 5) asB)
  (setM 6 (callM m_l_joined (consM (rd 0) (consM (rd 6) (consM (callM m_l_drawn_book (consM (rd 0) (consM (ret (.bl true)) nilM))) nilM)))))
  (ret .nx))
  (seqM (ifM (andM (bopT leI (ixM (hdN 6) (ret (.int 0))) (rd 1)) (bd (chain2 leI leI (h1 (hdE (ixM (hdN 3) (ret (.int 1)))) lenF) (h1 (hdE (ixM (hdN 6) (ret (.int 1)))) lenF) (rd 2)) asB))
  (setM 3 (rd 6))
  (ret .nx))
  (ifM (andM (bopT gtI (rd 4) (ret (.int 0))) (bopT gtI (h1 (hdE (ixM (hdN 3) (ret (.int 1)))) lenF) (bop addI (ret (.int 2)) (callM m_l_draw (consM (rd 0) (consM (ret (.int 4)) nilM))))))
  (retM (rd 3))
  (ret .nx))))))))
  (retM (rd 3))))
noncomputable def m_l_fitting : F := runF 7 b_l_fitting
noncomputable def b_l_book : M Fl :=
  (seqM (asgM (.tp [(.nm 3), (.nm 4)]) (callM m_l_fitting (consM (rd 0) (consM (rd 1) (consM (rd 2) nilM)))))
  (seqM (setM 3 (v2 (rd 1) (bop addI (rd 3) (callM m_l_draw (consM (rd 0) (consM (ret (.int 2)) nilM)))) min2F))
  (seqM (setM 5 (bd (callM m_l_mixed (consM (rd 0) (consM (bd (bd (rd 3) rngC1) frzC) nilM))) frzD))
  (seqM (setM 7 (callM m_l_mixed (consM (rd 0) (consM (bd (lcM (bd (rd 4) itemsD) (.nm 6) [6] yesM (bd (lcM (bd (rd 6) itemsD) (.nm 9) [9] yesM (ixM (hdN 5) (rd 9))) frzC)) frzC) nilM))))
  (seqM (bd (bd (callM m_l_draw (consM (rd 0) (consM (ret (.int 4)) nilM))) rng1) (forM (.nm 8)
  (seqM (setM 6 (slM (hdE (bd (callM m_l_mixed (consM (rd 0) (consM (bd (bd (rd 3) rngC1) frzC) nilM))) frzD)) (ret none) (bd (bop addI (ret (.int 1)) (callM m_l_draw (consM (rd 0) (consM (rd 3) nilM)))) oint)))
  (ifM (andM (bd (inM true (rd 6) (hdN 7)) asB) (andM (bopT ltI (h1 (hdN 7) lenF) (rd 2)) (isNT (callM m_l_lack (consM (bd (catC (hdN 7) (hdE (bd (lstM (consM (rd 6) nilM)) frzC))) frzC) nilM)))))
  (exprM (mutM appF (plN 7) (consM (rd 6) nilM)))
  (ret .nx)))))
  (retM (tupM (consM (rd 3) (consM (bd (rd 7) frzD) nilM)))))))))
noncomputable def m_l_book : F := runF 10 b_l_book
noncomputable def b_l_rows : M Fl :=
  (seqM (ownM 3 (lstM nilM))
  (seqM (bd (bd (rd 2) rng1) (forM (.nm 4)
  (seqM (setM 5 (slM (hdE (bd (callM m_l_mixed (consM (rd 0) (consM (bd (bd (rd 1) rngC1) frzC) nilM))) frzD)) (ret none) (bd (bop addI (ret (.int 1)) (callM m_l_draw (consM (rd 0) (consM (rd 1) nilM)))) oint)))
  (ifM (bd (inM true (rd 5) (hdN 3)) asB)
  (exprM (mutM appF (plN 3) (consM (rd 5) nilM)))
  (ret .nx)))))
  (retM (rd 3))))
noncomputable def m_l_rows : F := runF 6 b_l_rows
noncomputable def b_l_told_right : M Fl :=
  (seqM (setM 3 (callM (m_l_loose 60) (consM (rd 0) (consM (rd 2) nilM))))
  (seqM (setM 5 (bd (lcM (bd (rd 2) itemsD) (.nm 4) [4] yesM (bd (h1C (hdN 4) listF) boxC)) boxC))
  (seqM (parM [6, 7] (pVal (makeM "Book" m_Book_init (consM (rd 1) (consM (rd 3) nilM))) (pVal (makeK "Book" m_Book_init [1, 0] (consM (rd 5) (consM (rd 1) nilM))) pNil)))
  (seqM (bd (bd (rd 5) itemsD) (forM (.nm 4)
  (seqM (exprM (mutM revF (plN 4) nilM))
  (exprM (mutM appF (plN 4) (consM (bop addI (rd 1) (ret (.int 3))) nilM))))))
  (seqM (exprM (mutM appF (plN 5) (consM (ret (.str "late")) nilM)))
  (seqM (ifM (notM (bd (callM (m_l_same 60) (consM (bd (lstM (consM (methM "Book" "gates" m_Book_gates (rd 6) nilM) (consM (methM "Book" "ways" m_Book_ways (rd 6) nilM) (consM (methM "Book" "gates" m_Book_gates (rd 7) nilM) (consM (methM "Book" "ways" m_Book_ways (rd 7) nilM) nilM))))) frzC) (consM (bd (lstM (consM (rd 1) (consM (rd 2) (consM (rd 1) (consM (rd 2) nilM))))) frzC) nilM))) asB))
  (retM (ret (.bl false)))
  (ret .nx))
  (seqM (setM 8 (methM "Book" "ways" m_Book_ways (rd 6) nilM))
  (seqM (bd (bd (rd 8) itemsD) (forM (.nm 4)
  (exprM (mutM appF (plN 4) (consM (ret (.str "late")) nilM)))))
  (seqM (exprM (mutM appF (plN 8) (consM (ret (.str "late")) nilM)))
  (retM (andV (callM (m_l_same 60) (consM (methM "Book" "ways" m_Book_ways (rd 6) nilM) (consM (rd 2) nilM))) (andV (eqOwnM fns clss "Book" m_Book_eq (rd 6) (rd 7)) (notV (neOwnM fns clss "Book" m_Book_eq (rd 6) (rd 7)))))))))))))))
noncomputable def m_l_told_right : F := runF 9 b_l_told_right
noncomputable def b_l_unlike_right : M Fl :=
  (seqM (asgM (.tp [(.nm 3), (.nm 4)]) (tupM (consM (makeM "Book" m_Book_init (consM (rd 1) (consM (rd 2) nilM))) (consM (bd (lstM (consM (makeM "Book" m_Book_init (consM (bop addI (rd 1) (ret (.int 1))) (consM (rd 2) nilM))) (consM (makeM "Book" m_Book_init (consM (rd 1) (consM (slM (hdN 2) (ret none) (bd (negM (ret (.int 1))) oint)) nilM))) nilM))) boxC) nilM))))
  (seqM (ifM (bopT gtI (h1 (hdN 2) lenF) (ret (.int 1)))
  (exprM (mutM appF (plN 4) (consM (makeM "Book" m_Book_init (consM (rd 1) (consM (bd (catC (hdE (slM (hdN 2) (bd (ret (.int 1)) oint) (ret none))) (hdE (slM (hdN 2) (ret none) (bd (ret (.int 1)) oint)))) frzC) nilM))) nilM)))
  (ret .nx))
  (seqM (bd (bd (rd 2) enumS) (forM (.tp [(.nm 5), (.nm 6)])
  (ifM (bd (inM true (bd (revC (hdN 6)) frzC) (hdN 2)) asB)
  (exprM (mutM appF (plN 4) (consM (makeM "Book" m_Book_init (consM (rd 1) (consM (bd (catC (hdE (bd (catC (hdE (slM (hdN 2) (ret none) (bd (rd 5) oint))) (hdE (bd (lstM (consM (bd (revC (hdN 6)) frzC) nilM)) frzC))) frzC)) (hdE (slM (hdN 2) (bd (bop addI (rd 5) (ret (.int 1))) oint) (ret none)))) frzC) nilM))) nilM)))
  (ret .nx))))
  (seqM (ifM (bd (h1 (hdE (bd (lcM (bd (rd 4) itemsD) (.nm 8) [8] yesM (orV (eqOwnM fns clss "Book" m_Book_eq (rd 3) (rd 8)) (notV (neOwnM fns clss "Book" m_Book_eq (rd 3) (rd 8))))) frzC)) anyF) asB)
  (retM (ret (.bl false)))
  (ret .nx))
  (seqM (setM 7 (bd (lstM (consM (ret .non) (consM (ret (.int 5)) (consM (ret (.bl true)) (consM (ret (.str "book")) (consM (tupM nilM) (consM (rd 2) (consM (tupM (consM (rd 1) (consM (rd 2) nilM))) (consM (bd (ret (.dK [])) boxC) (consM (bd (lstM (consM (rd 3) nilM)) frzC) (consM (ret (.glo "_law_pick")) nilM))))))))))) frzC))
  (retM (andV (notV (h1 (hdE (bd (lcM (bd (rd 7) itemsD) (.nm 9) [9] yesM (orV (eqOwnM fns clss "Book" m_Book_eq (rd 3) (rd 9)) (notV (neOwnM fns clss "Book" m_Book_eq (rd 3) (rd 9))))) frzC)) anyF)) (eqOwnM fns clss "Book" m_Book_eq (rd 3) (makeM "Book" m_Book_init (consM (rd 1) (consM (h1 (hdN 2) (fun v => if v.1 = true then tupleF v else nope)) nilM)))))))))))
noncomputable def m_l_unlike_right : F := runF 10 b_l_unlike_right
noncomputable def b_law : M Fl :=
  (seqM (setM 1 (callM m_l_stream (consM (rd 0) nilM)))
  (seqM (bd (bd (ret (.int 4)) rng1) (forM (.nm 2)
  (seqM (asgM (.tp [(.nm 3), (.nm 4)]) (callM m_l_book (consM (rd 1) (consM (ret (.int 8)) (consM (ret (.int 30)) nilM)))))
  (seqM (ifM (orM (notM (bd (callM m_l_told_right (consM (rd 1) (consM (rd 3) (consM (rd 4) nilM)))) asB)) (notM (bd (callM m_l_unlike_right (consM (rd 1) (consM (rd 3) (consM (rd 4) nilM)))) asB)))
  (retM (ret (.bl false)))
  (ret .nx))
  (seqM (setM 3 (bop addI (ret (.int 1)) (callM m_l_draw (consM (rd 1) (consM (ret (.int 9)) nilM)))))
  (seqM (setM 4 (callM m_l_rows (consM (rd 1) (consM (rd 3) (consM (bop addI (ret (.int 1)) (callM m_l_draw (consM (rd 1) (consM (ret (.int 30)) nilM)))) nilM)))))
  (ifM (orM (notM (bd (callM m_l_told_right (consM (rd 1) (consM (rd 3) (consM (rd 4) nilM)))) asB)) (notM (bd (callM m_l_unlike_right (consM (rd 1) (consM (v2 (rd 3) (ret (.int 8)) min2F) (consM (bd (lstM (consM (bd (lstM (consM (ret (.int 0)) nilM)) frzC) nilM)) frzC) nilM)))) asB)))
  (retM (ret (.bl false)))
  (ret .nx))))))))
  (seqM (setM 5 (makeM "Book" m_Book_init (consM (ret (.int 0)) (consM (bd (lstM nilM) frzC) nilM))))
  (retM (andV (callM (m_l_same 60) (consM (bd (lstM (consM (methM "Book" "gates" m_Book_gates (rd 5) nilM) (consM (methM "Book" "ways" m_Book_ways (rd 5) nilM) (consM (methM "Book" "ways" m_Book_ways (makeM "Book" m_Book_init (consM (ret (.int 3)) (consM (tupM nilM) nilM))) nilM) nilM)))) frzC) (consM (bd (lstM (consM (ret (.int 0)) (consM (bd (lstM nilM) frzC) (consM (bd (lstM nilM) frzC) nilM)))) frzC) nilM))) (notV (eqOwnM fns clss "Book" m_Book_eq (rd 5) (makeM "Book" m_Book_init (consM (ret (.int 1)) (consM (bd (lstM nilM) frzC) nilM))))))))))
noncomputable def m_law : F := runF 6 b_law
/-! ### what the top has written -/
structure Txt (K : PySem.W.Frag) (mg : Str → Option Value) : Prop where
  d_is_integer : DefIn K mg "is_integer" s_is_integer
  d_is_number : DefIn K mg "is_number" s_is_number
  d_is_list : DefIn K mg "is_list" s_is_list
  d_are_unlike : DefIn K mg "are_unlike" s_are_unlike
  d_first_bad_way : DefIn K mg "first_bad_way" s_first_bad_way
  d_l_stream : DefIn K mg "_law_stream" s_l_stream
  d_l_draw : DefIn K mg "_law_draw" s_l_draw
  d_l_pick : DefIn K mg "_law_pick" s_l_pick
  d_l_mixed : DefIn K mg "_law_mixed" s_l_mixed
  d_l_same : DefIn K mg "_law_same" s_l_same
  d_l_loose : DefIn K mg "_law_loose" s_l_loose
  d_l_lack : DefIn K mg "_law_lack" s_l_lack
  d_l_leaped : DefIn K mg "_law_leaped" s_l_leaped
  d_l_trails : DefIn K mg "_law_trails" s_l_trails
  d_l_webbed : DefIn K mg "_law_webbed" s_l_webbed
  d_l_each_once : DefIn K mg "_law_each_once" s_l_each_once
  d_l_shifted : DefIn K mg "_law_shifted" s_l_shifted
  d_l_joined : DefIn K mg "_law_joined" s_l_joined
  d_l_drawn_book : DefIn K mg "_law_drawn_book" s_l_drawn_book
  d_l_fitting : DefIn K mg "_law_fitting" s_l_fitting
  d_l_book : DefIn K mg "_law_book" s_l_book
  d_l_rows : DefIn K mg "_law_rows" s_l_rows
  d_l_told_right : DefIn K mg "_law_told_right" s_l_told_right
  d_l_unlike_right : DefIn K mg "_law_unlike_right" s_l_unlike_right
  d_law : DefIn K mg "law" s_law
  n_abs : mg "abs" = none
  n_all : mg "all" = none
  n_any : mg "any" = none
  n_bool : mg "bool" = none
  n_dict : mg "dict" = none
  n_enumerate : mg "enumerate" = none
  n_int : mg "int" = none
  n_isinstance : mg "isinstance" = none
  n_len : mg "len" = none
  n_list : mg "list" = none
  n_min : mg "min" = none
  n_range : mg "range" = none
  n_sorted : mg "sorted" = none
  n_tuple : mg "tuple" = none
  n_zip : mg "zip" = none
  a_Book : ∀ C ∈ (["Book"] : List Str), ClsA K mg C ["own_gates", "own_ways", "own_known"]
  kit : KitOk K mg fns clss
  i_Book_init : MkIn K mg "Book" "Book.__init__" s_Book_init
  i_Book_gates : MtIn K mg "Book" "gates" "Book.gates" s_Book_gates
  i_Book_ways : MtIn K mg "Book" "ways" "Book.ways" s_Book_ways
  i_Book_eq : EqIn K mg "Book" "Book.__eq__" s_Book_eq clss
  g_Book : ∃ a, mg "Book" = some (.ref a)
  g_l_pick : ∃ a, mg "_law_pick" = some (.ref a)
/-! ### the defs -/
section
variable {P : Program} {w : World} {K : PySem.W.Frag} {mg : Str → Option Value} {base : Heap}
theorem ok_is_integer (T : Txt K mg) : FnM P w K mg base 1 "is_integer" s_is_integer ["thing"] m_is_integer := by
  obtain ⟨fa, fd, hm, Fu⟩ := T.d_is_integer.ex
  exact fnM (k := 0) Fu hm (Fu.binds (ps := ["thing"]) fun _ _ _ _ _ _ us hl => match us, hl with | [_], _ => rfl) sc_is_integer fun cdv A outer s H E hr =>
    (mss_one (ms_ret (me_and (me_isi T.kit (by rfl) T.n_isinstance (me_var 0) (me_ty (by rfl) T.n_int (by rfl))) (me_one (me_not (me_isi T.kit (by rfl) T.n_isinstance (me_var 0) (me_ty (by rfl) T.n_bool (by rfl))))))))
theorem ok_is_number (T : Txt K mg) (c_is_integer : FnM P w K mg base 1 "is_integer" s_is_integer ["thing"] m_is_integer) : FnM P w K mg base 2 "is_number" s_is_number ["thing"] m_is_number := by
  obtain ⟨fa, fd, hm, Fu⟩ := T.d_is_number.ex
  exact fnM (k := 1) Fu hm (Fu.binds (ps := ["thing"]) fun _ _ _ _ _ _ us hl => match us, hl with | [_], _ => rfl) sc_is_number fun cdv A outer s H E hr =>
    (mss_one (ms_ret (me_and (me_call c_is_integer hr (by decide) passD (by rfl) (ml_cons (me_var 0) ml_nil) (argN_cons argN_nil)) (me_one (me_ge (me_var 0) me_int)))))
theorem ok_is_list (T : Txt K mg) : FnM P w K mg base 1 "is_list" s_is_list ["thing"] m_is_list := by
  obtain ⟨fa, fd, hm, Fu⟩ := T.d_is_list.ex
  exact fnM (k := 0) Fu hm (Fu.binds (ps := ["thing"]) fun _ _ _ _ _ _ us hl => match us, hl with | [_], _ => rfl) sc_is_list fun cdv A outer s H E hr =>
    (mss_one (ms_ret (me_isi T.kit (by rfl) T.n_isinstance (me_var 0) (me_tup (ml_cons (me_ty (by rfl) T.n_list (by rfl)) (ml_cons (me_ty (by rfl) T.n_tuple (by rfl)) ml_nil))))))
theorem ok_are_unlike (T : Txt K mg) (c_is_list : FnM P w K mg base 1 "is_list" s_is_list ["thing"] m_is_list) (c_is_number : FnM P w K mg base 2 "is_number" s_is_number ["thing"] m_is_number) : FnM P w K mg base 3 "are_unlike" s_are_unlike ["thing", "bound"] m_are_unlike := by
  obtain ⟨fa, fd, hm, Fu⟩ := T.d_are_unlike.ex
  exact fnM (k := 2) Fu hm (Fu.binds (ps := ["thing", "bound"]) fun _ _ _ _ _ _ us hl => match us, hl with | [_, _], _ => rfl) sc_are_unlike fun cdv A outer s H E hr =>
    (mss_cons (ms_if (mt_w (mw_or (mt_not (mt_val (me_call c_is_list hr (by decide) passD (by rfl) (ml_cons (me_var 0) ml_nil) (argN_cons argN_nil)))) (mw_or1 (mt_not (mt_val (me_all (by rfl) (by rfl) T.n_all (mh_of (me_frz (by refine mc_lc (own := [("one", 2)]) ?_ ?_ ?_ ?_ ?_ ?_ ?_; exact rfl; exact sc_are_unlike.nd; exact (mi_seq (me_var 0)); exact (blkOk_by (N := N_are_unlike) (sc := (defScope s_are_unlike)) (scope := cs_are_unlike_0) (own := [("one", 2)]) (by decide +kernel)); exact (fun _ _ _ _ _ => (mg_nm 2 (by exact sc_are_unlike.nd))); exact (fun _ _ _ _ _ => mts_nil); exact (fun _ _ _ _ _ => (me_and (me_call c_is_number hr (by decide) passL (by rfl) (ml_cons (me_var 2) ml_nil) (argN_cons argN_nil)) (me_one (me_lt (me_var 2) (me_var 1))))))))))))))
    (mss_one (ms_ret me_bl))
    mss_nil)
    (mss_one (ms_ret (me_eq hr (me_lenC (by rfl) T.n_len (by refine mc_dc (own := [("one", 2)]) ?_ ?_ ?_ ?_ ?_ ?_ ?_ ?_; exact rfl; exact sc_are_unlike.nd; exact (mi_seq (me_var 0)); exact (blkOk_by (N := N_are_unlike) (sc := (defScope s_are_unlike)) (scope := cs_are_unlike_1) (own := [("one", 2)]) (by decide +kernel)); exact (fun _ _ _ _ _ => (mg_nm 2 (by exact sc_are_unlike.nd))); exact (fun _ _ _ _ _ => mts_nil); exact (fun _ _ _ _ _ => (me_var 2)); exact (fun _ _ _ _ _ => me_bl))) (me_len (by rfl) T.n_len (mh_var 0))))))
theorem ok_first_bad_way (T : Txt K mg) (c_is_list : FnM P w K mg base 1 "is_list" s_is_list ["thing"] m_is_list) (c_are_unlike : FnM P w K mg base 3 "are_unlike" s_are_unlike ["thing", "bound"] m_are_unlike) : FnM P w K mg base 4 "first_bad_way" s_first_bad_way ["gates", "ways"] m_first_bad_way := by
  obtain ⟨fa, fd, hm, Fu⟩ := T.d_first_bad_way.ex
  exact fnM (k := 3) Fu hm (Fu.binds (ps := ["gates", "ways"]) fun _ _ _ _ _ _ us hl => match us, hl with | [_, _], _ => rfl) sc_first_bad_way fun cdv A outer s H E hr =>
    (mss_cons (ms_if (mt_not (mt_val (me_call c_is_list hr (by decide) passD (by rfl) (ml_cons (me_var 1) ml_nil) (argN_cons argN_nil))))
    (mss_one (ms_ret me_int))
    mss_nil)
    (mss_cons (ms_own (i := 2) sc_first_bad_way.nd rfl (Or.inl rfl) (mc_lst ml_nil))
    (mss_cons (ms_for ownsD rfl (mi_enum (by rfl) T.n_enumerate (me_var 1)) (mg_tp (by rfl) (mgs_cons (mg_nm 3 (by exact sc_first_bad_way.nd)) (mgs_cons (mg_nm 4 (by exact sc_first_bad_way.nd)) mgs_nil)))
    (mss_cons (ms_if (mt_w (mw_or (mt_not (mt_val (me_call c_are_unlike hr (by decide) passD (by rfl) (ml_cons (me_var 4) (ml_cons (me_var 0) ml_nil)) (argN_cons (argN_cons argN_nil))))) (mw_or (mt_eq hr (me_len (by rfl) T.n_len (mh_var 4)) me_int) (mw_or1 (mt_in hr (me_frz (mc_list (by rfl) T.n_list (mh_var 4))) (mh_var 2))))))
    (mss_one (ms_ret (me_var 3)))
    mss_nil)
    (mss_one (ms_expr (me_append (mp_var 2) (me_frz (mc_list (by rfl) T.n_list (mh_var 4))))))))
    (mss_one (ms_ret me_non)))))
theorem ok_Book_init (T : Txt K mg) (c_is_number : FnM P w K mg base 2 "is_number" s_is_number ["thing"] m_is_number) (c_first_bad_way : FnM P w K mg base 4 "first_bad_way" s_first_bad_way ["gates", "ways"] m_first_bad_way) : MkM P w K mg base 5 "Book" "Book.__init__" s_Book_init ["self", "gates", "ways"] m_Book_init :=
  mkM_of T.i_Book_init (fun Fu => (Fu.binds (ps := ["self", "gates", "ways"]) fun _ _ _ _ _ _ us hl => match us, hl with | [_, _, _], _ => rfl)) fun fa fd Fu => fnM_ok (k := 4) Fu sc_Book_init fun cdv A outer s H E hr =>
    (mss_cons (ms_if (mt_not (mt_val (me_call c_is_number hr (by decide) passD (by rfl) (ml_cons (me_var 1) ml_nil) (argN_cons argN_nil))))
    (mss_one ms_never)
    mss_nil)
    (mss_cons (ms_set (i := 3) sc_Book_init.nd rfl (Or.inl rfl) (me_call c_first_bad_way hr (by decide) passD (by rfl) (ml_cons (me_var 1) (ml_cons (me_var 2) ml_nil)) (argN_cons (argN_cons argN_nil))))
    (mss_cons (ms_if (mt_notN (me_var 3))
    (mss_one ms_never)
    mss_nil)
    (mss_cons (ms_fld T.a_Book (by decide) (me_var 0) (me_var 1))
    (mss_cons (ms_fld T.a_Book (by decide) (me_var 0) (me_frz (by refine mc_lc (own := [("row", 4)]) ?_ ?_ ?_ ?_ ?_ ?_ ?_; exact rfl; exact sc_Book_init.nd; exact (mi_seq (me_var 2)); exact (blkOk_by (N := N_Book_init) (sc := (defScope s_Book_init)) (scope := cs_Book_init_0) (own := [("row", 4)]) (by decide +kernel)); exact (fun _ _ _ _ _ => (mg_nm 4 (by exact sc_Book_init.nd))); exact (fun _ _ _ _ _ => mts_nil); exact (fun _ _ _ _ _ => (me_frz (mc_list (by rfl) T.n_list (mh_var 4)))))))
    (mss_one (ms_fld T.a_Book (by decide) (me_var 0) (me_box mc_dK))))))))
theorem ok_Book_gates (T : Txt K mg) : MtM P w K mg base 1 "Book" "gates" "Book.gates" s_Book_gates ["self"] m_Book_gates :=
  mtM_of T.i_Book_gates (fun Fu => (Fu.binds (ps := ["self"]) fun _ _ _ _ _ _ us hl => match us, hl with | [_], _ => rfl)) fun fa fd Fu => fnM_ok (k := 0) Fu sc_Book_gates fun cdv A outer s H E hr =>
    (mss_one (ms_ret (me_fld T.a_Book (by decide) (me_var 0))))
theorem ok_Book_ways (T : Txt K mg) : MtM P w K mg base 1 "Book" "ways" "Book.ways" s_Book_ways ["self"] m_Book_ways :=
  mtM_of T.i_Book_ways (fun Fu => (Fu.binds (ps := ["self"]) fun _ _ _ _ _ _ us hl => match us, hl with | [_], _ => rfl)) fun fa fd Fu => fnM_ok (k := 0) Fu sc_Book_ways fun cdv A outer s H E hr =>
    (mss_one (ms_ret (me_box (by refine mc_lc (own := [("row", 1)]) ?_ ?_ ?_ ?_ ?_ ?_ ?_; exact rfl; exact sc_Book_ways.nd; exact (mi_seq (me_fld T.a_Book (by decide) (me_var 0))); exact (blkOk_by (N := N_Book_ways) (sc := (defScope s_Book_ways)) (scope := cs_Book_ways_0) (own := [("row", 1)]) (by decide +kernel)); exact (fun _ _ _ _ _ => (mg_nm 1 (by exact sc_Book_ways.nd))); exact (fun _ _ _ _ _ => mts_nil); exact (fun _ _ _ _ _ => (me_box (mc_list (by rfl) T.n_list (mh_var 1))))))))
theorem ok_Book_eq (T : Txt K mg) : EqM P w K mg base 1 "Book" ["self", "other"] m_Book_eq clss :=
  eqM_of T.i_Book_eq (fun Fu => (Fu.binds (ps := ["self", "other"]) fun _ _ _ _ _ _ us hl => match us, hl with | [_, _], _ => rfl)) fun fa fd Fu => fnM_ok (k := 0) Fu sc_Book_eq fun cdv A outer s H E hr =>
    (mss_cons (ms_if (mt_not (mt_val (me_isi T.kit (by rfl) T.n_isinstance (me_var 1) (me_gloE (by rfl) T.g_Book))))
    (mss_one (ms_ret me_bl))
    mss_nil)
    (mss_one (ms_ret (me_and (me_eq hr (me_fld T.a_Book (by decide) (me_var 0)) (me_fld T.a_Book (by decide) (me_var 1))) (me_one (me_eq hr (me_fld T.a_Book (by decide) (me_var 0)) (me_fld T.a_Book (by decide) (me_var 1))))))))
theorem ok_l_stream (T : Txt K mg) : FnM P w K mg base 1 "_law_stream" s_l_stream ["_law_script"] m_l_stream := by
  obtain ⟨fa, fd, hm, Fu⟩ := T.d_l_stream.ex
  exact fnM (k := 0) Fu hm (Fu.binds (ps := ["_law_script"]) fun _ _ _ _ _ _ us hl => match us, hl with | [_], _ => rfl) sc_l_stream fun cdv A outer s H E hr =>
    (mss_one (ms_ret (me_box (mc_lst (ml_cons (me_box (mc_scr (by rfl) T.n_list (me_var 0))) (ml_cons me_int (ml_cons me_int (ml_cons me_int ml_nil))))))))
theorem ok_l_draw (T : Txt K mg) : FnM P w K mg base 1 "_law_draw" s_l_draw ["_law_stream_here", "_law_many"] m_l_draw := by
  obtain ⟨fa, fd, hm, Fu⟩ := T.d_l_draw.ex
  exact fnM (k := 0) Fu hm (Fu.binds (ps := ["_law_stream_here", "_law_many"]) fun _ _ _ _ _ _ us hl => match us, hl with | [_, _], _ => rfl) sc_l_draw fun cdv A outer s H E hr =>
    (mss_cons (ms_setIx hr (me_add (me_ix (mh_var 0) me_int) me_int) (mp_var 0) me_int)
    (mss_cons (ms_while ownsD (mt_w (mw_and (mt_eq hr (me_ix (mh_var 0) me_int) me_int) (mw_and1 (mt_neH hr (mh_of (me_ix (mh_var 0) me_int)) (mh_of (me_frz (mc_lst ml_nil)))))))
    (mss_cons (ms_set (i := 2) sc_l_draw.nd rfl (Or.inl rfl) (me_abs (by rfl) T.n_abs (me_popAt (mp_of (me_ix (mh_var 0) me_int)) me_int)))
    (mss_cons (ms_setIx hr (me_mod (me_intOf (by rfl) T.n_int (me_add (me_add (me_mul (me_ix (mh_var 0) me_int) me_int) (me_var 2)) me_int)) me_int) (mp_var 0) me_int)
    (mss_one (ms_setIx hr (me_if (mt_ge (me_var 2) (me_pow me_int me_int)) (me_var 2) me_int) (mp_var 0) me_int)))))
    (mss_cons (ms_if (mt_gt (me_ix (mh_var 0) me_int) me_int)
    (mss_cons (ms_set (i := 3) sc_l_draw.nd rfl (Or.inl rfl) (me_mod (me_intOf (by rfl) T.n_int (me_ix (mh_var 0) me_int)) (me_var 1)))
    (mss_cons (ms_setIx hr (me_div (me_ix (mh_var 0) me_int) (me_var 1)) (mp_var 0) me_int)
    (mss_one (ms_ret (me_var 3)))))
    mss_nil)
    (mss_cons (ms_set (i := 4) sc_l_draw.nd rfl (Or.inl rfl) (me_mod (me_intOf (by rfl) T.n_int (me_pow (me_add (me_add (me_ix (mh_var 0) me_int) (me_mul me_int (me_ix (mh_var 0) me_int))) me_int) me_int)) me_int))
    (mss_one (ms_ret (me_mod (me_mod (me_intOf (by rfl) T.n_int (me_pow (me_add (me_add (me_mul (me_var 4) me_int) (me_mul me_int (me_ix (mh_var 0) me_int))) me_int) me_int)) me_int) (me_var 1))))))))
theorem ok_l_pick (T : Txt K mg) (c_l_draw : FnM P w K mg base 1 "_law_draw" s_l_draw ["_law_stream_here", "_law_many"] m_l_draw) : FnM P w K mg base 2 "_law_pick" s_l_pick ["_law_stream_here", "_law_things"] m_l_pick := by
  obtain ⟨fa, fd, hm, Fu⟩ := T.d_l_pick.ex
  exact fnM (k := 1) Fu hm (Fu.binds (ps := ["_law_stream_here", "_law_things"]) fun _ _ _ _ _ _ us hl => match us, hl with | [_, _], _ => rfl) sc_l_pick fun cdv A outer s H E hr =>
    (mss_one (ms_ret (me_ix (mh_var 1) (me_call c_l_draw hr (by decide) passD (by rfl) (ml_cons (me_var 0) (ml_cons (me_len (by rfl) T.n_len (mh_var 1)) ml_nil)) (argN_cons (argN_cons argN_nil))))))
theorem ok_l_mixed (T : Txt K mg) (c_l_draw : FnM P w K mg base 1 "_law_draw" s_l_draw ["_law_stream_here", "_law_many"] m_l_draw) : FnM P w K mg base 2 "_law_mixed" s_l_mixed ["_law_stream_here", "_law_things"] m_l_mixed := by
  obtain ⟨fa, fd, hm, Fu⟩ := T.d_l_mixed.ex
  exact fnM (k := 1) Fu hm (Fu.binds (ps := ["_law_stream_here", "_law_things"]) fun _ _ _ _ _ _ us hl => match us, hl with | [_, _], _ => rfl) sc_l_mixed fun cdv A outer s H E hr =>
    (mss_cons (ms_par (i := 2) (j := 3) rfl sc_l_mixed.nd rfl rfl (by decide) rfl rfl (mp_own (mc_list (by rfl) T.n_list (mh_var 1)) (mp_own (mc_lst ml_nil) mp_nil)) (by first | rfl | kernel_rfl))
    (mss_cons (ms_for ownsD rfl (mi_range1 (by rfl) T.n_range (me_len (by rfl) T.n_len (mh_var 2))) (mg_nm 4 (by exact sc_l_mixed.nd))
    (mss_one (ms_expr (me_append (mp_var 3) (me_popAt (mp_var 2) (me_call c_l_draw hr (by decide) passD (by rfl) (ml_cons (me_var 0) (ml_cons (me_len (by rfl) T.n_len (mh_var 2)) ml_nil)) (argN_cons (argN_cons argN_nil))))))))
    (mss_one (ms_ret (me_varB 3)))))
theorem ok_l_same (T : Txt K mg) : ∀ n, FnM P w K mg base (0 + n) "_law_same" s_l_same ["_law_found", "_law_due"] (m_l_same n)
  | 0 => by
    obtain ⟨fa, fd, hm, Fu⟩ := T.d_l_same.ex
    exact fnM0 Fu hm (Fu.binds (ps := ["_law_found", "_law_due"]) fun _ _ _ _ _ _ us hl => match us, hl with | [_, _], _ => rfl)
  | n + 1 => by
    obtain ⟨fa, fd, hm, Fu⟩ := T.d_l_same.ex
    have c_rec := ok_l_same T n
    have hk_rec : 0 + n ≤ 0 + n := Nat.le_refl _
    exact fnM (k := 0 + n) Fu hm (Fu.binds (ps := ["_law_found", "_law_due"]) fun _ _ _ _ _ _ us hl => match us, hl with | [_, _], _ => rfl) sc_l_same fun cdv A outer s H E hr =>
    (mss_cons (ms_if (mt_val (me_isi T.kit (by rfl) T.n_isinstance (me_var 1) (me_tup (ml_cons (me_ty (by rfl) T.n_list (by rfl)) (ml_cons (me_ty (by rfl) T.n_tuple (by rfl)) ml_nil)))))
    (mss_cons (ms_if (mt_w (mw_or (mt_ne hr (me_isi T.kit (by rfl) T.n_isinstance (me_var 0) (me_ty (by rfl) T.n_list (by rfl))) (me_isi T.kit (by rfl) T.n_isinstance (me_var 1) (me_ty (by rfl) T.n_list (by rfl)))) (mw_or1 (mt_ne hr (me_isi T.kit (by rfl) T.n_isinstance (me_var 0) (me_ty (by rfl) T.n_tuple (by rfl))) (me_isi T.kit (by rfl) T.n_isinstance (me_var 1) (me_ty (by rfl) T.n_tuple (by rfl)))))))
    (mss_one (ms_ret me_bl))
    mss_nil)
    (mss_one (ms_ret (me_and (me_eq hr (me_len (by rfl) T.n_len (mh_var 0)) (me_len (by rfl) T.n_len (mh_var 1))) (me_one (me_all (by rfl) (by rfl) T.n_all (mh_of (me_frz (by refine mc_lc (own := [("_law_mine", 2), ("_law_theirs", 3)]) ?_ ?_ ?_ ?_ ?_ ?_ ?_; exact rfl; exact sc_l_same.nd; exact (mi_zip (by rfl) T.n_zip (me_var 0) (me_var 1)); exact (blkOk_by (N := N_l_same) (sc := (defScope s_l_same)) (scope := cs_l_same_0) (own := [("_law_mine", 2), ("_law_theirs", 3)]) (by decide +kernel)); exact (fun _ _ _ _ _ => (mg_tp (by rfl) (mgs_cons (mg_nm 2 (by exact sc_l_same.nd)) (mgs_cons (mg_nm 3 (by exact sc_l_same.nd)) mgs_nil)))); exact (fun _ _ _ _ _ => mts_nil); exact (fun _ _ _ _ _ => (me_call c_rec hr hk_rec passL (by rfl) (ml_cons (me_var 2) (ml_cons (me_var 3) ml_nil)) (argN_cons (argN_cons argN_nil)))))))))))))
    mss_nil)
    (mss_cons (ms_if (mt_val (me_isi T.kit (by rfl) T.n_isinstance (me_var 1) (me_ty (by rfl) T.n_dict (by rfl))))
    (mss_one ms_never)
    mss_nil)
    (mss_cons (ms_if (mt_w (mw_or (mt_val (me_isi T.kit (by rfl) T.n_isinstance (me_var 1) (me_ty (by rfl) T.n_bool (by rfl)))) (mw_or1 (mt_val (me_isi T.kit (by rfl) T.n_isinstance (me_var 0) (me_ty (by rfl) T.n_bool (by rfl)))))))
    (mss_one (ms_ret (me_and (me_isi T.kit (by rfl) T.n_isinstance (me_var 1) (me_ty (by rfl) T.n_bool (by rfl))) (me_and (me_isi T.kit (by rfl) T.n_isinstance (me_var 0) (me_ty (by rfl) T.n_bool (by rfl))) (me_one (me_eq hr (me_var 0) (me_var 1)))))))
    mss_nil)
    (mss_one (ms_ret (me_and (me_not (me_isi T.kit (by rfl) T.n_isinstance (me_var 0) (me_tup (ml_cons (me_ty (by rfl) T.n_list (by rfl)) (ml_cons (me_ty (by rfl) T.n_tuple (by rfl)) (ml_cons (me_ty (by rfl) T.n_dict (by rfl)) ml_nil)))))) (me_one (me_eq hr (me_var 0) (me_var 1)))))))))
theorem ok_l_loose (T : Txt K mg) (c_l_draw : FnM P w K mg base 1 "_law_draw" s_l_draw ["_law_stream_here", "_law_many"] m_l_draw) : ∀ n, FnM P w K mg base (1 + n) "_law_loose" s_l_loose ["_law_stream_here", "_law_thing"] (m_l_loose n)
  | 0 => by
    obtain ⟨fa, fd, hm, Fu⟩ := T.d_l_loose.ex
    exact fnM0 Fu hm (Fu.binds (ps := ["_law_stream_here", "_law_thing"]) fun _ _ _ _ _ _ us hl => match us, hl with | [_, _], _ => rfl)
  | n + 1 => by
    obtain ⟨fa, fd, hm, Fu⟩ := T.d_l_loose.ex
    have c_rec := ok_l_loose T c_l_draw n
    have hk_rec : 1 + n ≤ 1 + n := Nat.le_refl _
    exact fnM (k := 1 + n) Fu hm (Fu.binds (ps := ["_law_stream_here", "_law_thing"]) fun _ _ _ _ _ _ us hl => match us, hl with | [_, _], _ => rfl) sc_l_loose fun cdv A outer s H E hr =>
    (mss_cons (ms_if (mt_val (me_isi T.kit (by rfl) T.n_isinstance (me_var 1) (me_tup (ml_cons (me_ty (by rfl) T.n_list (by rfl)) (ml_cons (me_ty (by rfl) T.n_tuple (by rfl)) ml_nil)))))
    (mss_cons (by refine ms_setLc (i := 2) (k := frzC) (own := [("_law_one", 3)]) ?_ ?_ ?_ ?_ ?_ ?_ ?_ ?_ ?_ ?_ ?_; exact rfl; exact sc_l_loose.nd; exact rfl; exact rfl; exact (sw_true rfl rfl rfl (by decide +kernel)); exact (mi_seq (me_var 1)); exact (blkOk_by (N := N_l_loose) (sc := (defScope s_l_loose)) (scope := cs_l_loose_0) (own := [("_law_one", 3)]) (by decide +kernel)); exact (fun _ _ _ _ _ => (mg_nm 3 (by exact sc_l_loose.nd))); exact (fun _ _ _ _ _ => mts_nil); exact (fun _ _ _ _ _ => (me_call c_rec hr hk_rec passL (by rfl) (ml_cons (me_var 0) (ml_cons (me_var 3) ml_nil)) (argN_cons (argN_cons argN_nil)))); exact (by first | exact .inl rfl | exact .inr rfl))
    (mss_one (ms_ret (me_if (mt_eq hr (me_call c_l_draw hr (by omega) passD (by rfl) (ml_cons (me_var 0) (ml_cons me_int ml_nil)) (argN_cons (argN_cons argN_nil))) me_int) (me_var 2) (me_tuple (by rfl) T.n_tuple (mh_var 2))))))
    mss_nil)
    (mss_one (ms_ret (me_var 1))))
theorem ok_l_lack (T : Txt K mg) : FnM P w K mg base 1 "_law_lack" s_l_lack ["_law_rows_here"] m_l_lack := by
  obtain ⟨fa, fd, hm, Fu⟩ := T.d_l_lack.ex
  exact fnM (k := 0) Fu hm (Fu.binds (ps := ["_law_rows_here"]) fun _ _ _ _ _ _ us hl => match us, hl with | [_], _ => rfl) sc_l_lack fun cdv A outer s H E hr =>
    (mss_cons (ms_for ownsD rfl (mi_enum (by rfl) T.n_enumerate (me_var 0)) (mg_tp (by rfl) (mgs_cons (mg_nm 1 (by exact sc_l_lack.nd)) (mgs_cons (mg_nm 2 (by exact sc_l_lack.nd)) mgs_nil)))
    (mss_one (ms_for ownsD rfl (mi_seq (me_frz (mc_sorted (by rfl) T.n_sorted (mh_var 2)))) (mg_nm 3 (by exact sc_l_lack.nd))
    (mss_cons (ms_set (i := 4) sc_l_lack.nd rfl (Or.inl rfl) (me_slice (mh_var 2) mo_none (mo_some (me_add (me_index hr (mh_var 2) (me_var 3)) me_int))))
    (mss_one (ms_for ownsD rfl (mi_enum (by rfl) T.n_enumerate (me_var 0)) (mg_tp (by rfl) (mgs_cons (mg_nm 5 (by exact sc_l_lack.nd)) (mgs_cons (mg_nm 6 (by exact sc_l_lack.nd)) mgs_nil)))
    (mss_one (ms_if (mt_w (mw_and (mt_ne hr (me_var 5) (me_var 1)) (mw_and1 (mt_in hr (me_var 3) (mh_var 6)))))
    (mss_cons (ms_set (i := 7) sc_l_lack.nd rfl (Or.inr rfl) (me_frz (mc_cat (mh_var 4) (mh_of (me_slice (mh_var 6) (mo_some (me_index hr (mh_var 6) (me_var 3))) mo_none)))))
    (mss_one (ms_if (mt_not (mt_val (me_any (by rfl) (by rfl) T.n_any (mh_of (me_frz (by refine mc_lc (own := [("_law_some", 8)]) ?_ ?_ ?_ ?_ ?_ ?_ ?_; exact rfl; exact sc_l_lack.nd; exact (mi_seq (me_var 0)); exact (blkOk_by (N := N_l_lack) (sc := (defScope s_l_lack)) (scope := cs_l_lack_0) (own := [("_law_some", 8)]) (by decide +kernel)); exact (fun _ _ _ _ _ => (mg_nm 8 (by exact sc_l_lack.nd))); exact (fun _ _ _ _ _ => mts_nil); exact (fun _ _ _ _ _ => (me_all (by rfl) (by rfl) T.n_all (mh_of (me_frz (by refine mc_lc (own := [("_law_part", 9)]) ?_ ?_ ?_ ?_ ?_ ?_ ?_; exact rfl; exact sc_l_lack.nd; exact (mi_seq (me_var 8)); exact (blkOk_by (N := N_l_lack) (sc := (relS cs_l_lack_0 (defScope s_l_lack))) (scope := cs_l_lack_1) (own := [("_law_part", 9)]) (by decide +kernel)); exact (fun _ _ _ _ _ => (mg_nm 9 (by exact sc_l_lack.nd))); exact (fun _ _ _ _ _ => mts_nil); exact (fun _ _ _ _ _ => (me_in hr (me_var 9) (mh_var 7))))))))))))))
    (mss_one (ms_ret (me_tup (ml_cons (me_var 1) (ml_cons (me_var 3) (ml_cons (me_var 5) ml_nil))))))
    mss_nil)))
    mss_nil))))))))
    (mss_one (ms_ret me_non)))
theorem ok_l_leaped (T : Txt K mg) (c_l_draw : FnM P w K mg base 1 "_law_draw" s_l_draw ["_law_stream_here", "_law_many"] m_l_draw) (c_l_mixed : FnM P w K mg base 2 "_law_mixed" s_l_mixed ["_law_stream_here", "_law_things"] m_l_mixed) : FnM P w K mg base 3 "_law_leaped" s_l_leaped ["_law_stream_here", "_law_things", "_law_top"] m_l_leaped := by
  obtain ⟨fa, fd, hm, Fu⟩ := T.d_l_leaped.ex
  exact fnM (k := 2) Fu hm (Fu.binds (ps := ["_law_stream_here", "_law_things", "_law_top"]) fun _ _ _ _ _ _ us hl => match us, hl with | [_, _, _], _ => rfl) sc_l_leaped fun cdv A outer s H E hr =>
    (mss_cons (ms_par (i := 3) (j := 4) rfl sc_l_leaped.nd rfl rfl (by decide) rfl rfl (mp_val (me_add me_int (me_call c_l_draw hr (by decide) passD (by rfl) (ml_cons (me_var 0) (ml_cons (me_sub (me_var 2) me_int) ml_nil)) (argN_cons (argN_cons argN_nil)))) (mp_val (me_and (me_gt (me_var 2) me_int) (me_one (me_eq hr (me_call c_l_draw hr (by decide) passD (by rfl) (ml_cons (me_var 0) (ml_cons me_int ml_nil)) (argN_cons (argN_cons argN_nil))) me_int))) mp_nil)) (by first | rfl | kernel_rfl))
    (mss_cons (ms_par (i := 3) (j := 1) rfl sc_l_leaped.nd rfl rfl (by decide) rfl rfl (mp_val (me_if (mt_val (me_var 4)) me_int (me_var 3)) (mp_val (me_if (mt_val (me_var 4)) me_int (me_var 1)) mp_nil)) (by first | rfl | kernel_rfl))
    (mss_cons (ms_asg (me_tup (ml_cons (me_box (mc_lst ml_nil)) (ml_cons (me_box (mc_lst ml_nil)) ml_nil))) (mg_tp (by rfl) (mgs_cons (mg_nm 5 (by exact sc_l_leaped.nd)) (mgs_cons (mg_nm 6 (by exact sc_l_leaped.nd)) mgs_nil))))
    (mss_cons (ms_for ownsD rfl (mi_range1 (by rfl) T.n_range (me_var 3)) (mg_nm 7 (by exact sc_l_leaped.nd))
    (mss_cons (ms_set (i := 8) sc_l_leaped.nd rfl (Or.inl rfl) (me_slice (mh_of (me_fz (me_call c_l_mixed hr (by decide) passD (by rfl) (ml_cons (me_var 0) (ml_cons (me_frz (mc_listRg1 (by rfl) (by rfl) T.n_list (by rfl) T.n_range (me_var 1))) ml_nil)) (argN_cons (argN_cons argN_nil))))) mo_none (mo_some (me_add me_int (me_call c_l_draw hr (by decide) passD (by rfl) (ml_cons (me_var 0) (ml_cons (me_var 1) ml_nil)) (argN_cons (argN_cons argN_nil)))))))
    (mss_cons (ms_if (mt_val (me_var 4))
    (mss_one (ms_set (i := 8) sc_l_leaped.nd rfl (Or.inl rfl) (me_ix (mh_of (me_frz (mc_lst (ml_cons (me_frz (mc_lst (ml_cons me_int ml_nil))) (ml_cons (me_fz (me_call c_l_mixed hr (by decide) passD (by rfl) (ml_cons (me_var 0) (ml_cons (me_frz (mc_lst (ml_cons me_int (ml_cons me_int ml_nil)))) ml_nil)) (argN_cons (argN_cons argN_nil)))) (ml_cons (me_frz (mc_lst (ml_cons me_int ml_nil))) ml_nil)))))) (me_var 7))))
    mss_nil)
    (mss_cons (ms_expr (me_append (mp_var 5) (me_var 8)))
    (mss_one (ms_expr (me_append (mp_var 6) (me_frz (mc_cat (mh_of (me_frz (mc_cat (mh_of (me_frz (mc_lst (ml_cons (me_add (me_var 1) (me_mul me_int (me_var 7))) ml_nil)))) (mh_var 8)))) (mh_of (me_frz (mc_lst (ml_cons (me_add (me_add (me_var 1) (me_mul me_int (me_var 7))) me_int) ml_nil)))))))))))))
    (mss_cons (ms_for ownsD rfl (mi_range1 (by rfl) T.n_range (me_var 3)) (mg_nm 9 (by exact sc_l_leaped.nd))
    (mss_one (ms_for ownsD rfl (mi_range1 (by rfl) T.n_range (me_var 3)) (mg_nm 10 (by exact sc_l_leaped.nd))
    (mss_one (ms_if (mt_w (mw_and (mt_ne hr (me_var 9) (me_var 10)) (mw_and1 (mt_val (me_any (by rfl) (by rfl) T.n_any (mh_of (me_frz (by refine mc_lc (own := [("_law_gate", 11)]) ?_ ?_ ?_ ?_ ?_ ?_ ?_; exact rfl; exact sc_l_leaped.nd; exact (mi_seq (me_ix (mh_var 5) (me_var 9))); exact (blkOk_by (N := N_l_leaped) (sc := (defScope s_l_leaped)) (scope := cs_l_leaped_0) (own := [("_law_gate", 11)]) (by decide +kernel)); exact (fun _ _ _ _ _ => (mg_nm 11 (by exact sc_l_leaped.nd))); exact (fun _ _ _ _ _ => mts_nil); exact (fun _ _ _ _ _ => (me_in hr (me_var 11) (mh_of (me_ix (mh_var 5) (me_var 10)))))))))))))
    (mss_one (ms_expr (me_append (mp_var 6) (me_frz (mc_lst (ml_cons (me_add (me_var 1) (me_mul me_int (me_var 9))) (ml_cons (me_add (me_add (me_var 1) (me_mul me_int (me_var 10))) me_int) ml_nil)))))))
    mss_nil)))))
    (mss_one (ms_ret (me_tup (ml_cons (me_add (me_var 1) (me_mul me_int (me_var 3))) (ml_cons (me_fz (me_var 6)) ml_nil))))))))))
theorem ok_l_trails (T : Txt K mg) : ∀ n, FnM P w K mg base (0 + n) "_law_trails" s_l_trails ["_law_here", "_law_ends", "_law_roads", "_law_met", "_law_row"] (m_l_trails n)
  | 0 => by
    obtain ⟨fa, fd, hm, Fu⟩ := T.d_l_trails.ex
    exact fnM0 Fu hm (Fu.binds (ps := ["_law_here", "_law_ends", "_law_roads", "_law_met", "_law_row"]) fun _ _ _ _ _ _ us hl => match us, hl with | [_, _, _, _, _], _ => rfl)
  | n + 1 => by
    obtain ⟨fa, fd, hm, Fu⟩ := T.d_l_trails.ex
    have c_rec := ok_l_trails T n
    have hk_rec : 0 + n ≤ 0 + n := Nat.le_refl _
    exact fnM (k := 0 + n) Fu hm (Fu.binds (ps := ["_law_here", "_law_ends", "_law_roads", "_law_met", "_law_row"]) fun _ _ _ _ _ _ us hl => match us, hl with | [_, _, _, _, _], _ => rfl) sc_l_trails fun cdv A outer s H E hr =>
    (mss_cons (ms_own (i := 5) sc_l_trails.nd rfl (Or.inl rfl) (mc_if (mt_w (mw_and (mt_in hr (me_var 0) (mh_var 1)) (mw_and1 (mt_ne hr (me_var 4) (me_frz (mc_lst ml_nil)))))) (mc_lst (ml_cons (me_var 4) ml_nil)) (mc_lst ml_nil)))
    (mss_cons (ms_for ownsD rfl (mi_enum (by rfl) T.n_enumerate (me_var 2)) (mg_tp (by rfl) (mgs_cons (mg_nm 6 (by exact sc_l_trails.nd)) (mgs_cons (mg_tp (by rfl) (mgs_cons (mg_nm 7 (by exact sc_l_trails.nd)) (mgs_cons (mg_nm 8 (by exact sc_l_trails.nd)) mgs_nil))) mgs_nil)))
    (mss_one (ms_if (mt_w (mw_and (mt_eq hr (me_var 7) (me_var 0)) (mw_and1 (mt_notin hr (me_var 8) (mh_var 3)))))
    (mss_one (ms_expr (me_extend (mp_var 5) (mh_of (me_call c_rec hr hk_rec passD (by rfl) (ml_cons (me_var 8) (ml_cons (me_var 1) (ml_cons (me_var 2) (ml_cons (me_frz (mc_cat (mh_var 3) (mh_of (me_frz (mc_lst (ml_cons (me_var 8) ml_nil)))))) (ml_cons (me_frz (mc_cat (mh_var 4) (mh_of (me_frz (mc_lst (ml_cons (me_var 6) ml_nil)))))) ml_nil))))) (argN_cons (argN_cons (argN_cons (argN_cons (argN_cons argN_nil))))))))))
    mss_nil)))
    (mss_one (ms_ret (me_var 5)))))
theorem ok_l_each_once (T : Txt K mg) : FnM P w K mg base 1 "_law_each_once" s_l_each_once ["_law_some"] m_l_each_once := by
  obtain ⟨fa, fd, hm, Fu⟩ := T.d_l_each_once.ex
  exact fnM (k := 0) Fu hm (Fu.binds (ps := ["_law_some"]) fun _ _ _ _ _ _ us hl => match us, hl with | [_], _ => rfl) sc_l_each_once fun cdv A outer s H E hr =>
    (mss_cons (ms_own (i := 1) sc_l_each_once.nd rfl (Or.inl rfl) (mc_lst ml_nil))
    (mss_cons (ms_for ownsD rfl (mi_seq (me_var 0)) (mg_nm 2 (by exact sc_l_each_once.nd))
    (mss_one (ms_expr (me_extend (mp_var 1) (mh_of (me_if (mt_notin hr (me_var 2) (mh_var 1)) (me_frz (mc_lst (ml_cons (me_var 2) ml_nil))) (me_frz (mc_lst ml_nil))))))))
    (mss_one (ms_ret (me_var 1)))))
theorem ok_l_webbed (T : Txt K mg) (c_l_draw : FnM P w K mg base 1 "_law_draw" s_l_draw ["_law_stream_here", "_law_many"] m_l_draw) (c_l_mixed : FnM P w K mg base 2 "_law_mixed" s_l_mixed ["_law_stream_here", "_law_things"] m_l_mixed) (c_l_trails : FnM P w K mg base 60 "_law_trails" s_l_trails ["_law_here", "_law_ends", "_law_roads", "_law_met", "_law_row"] (m_l_trails 60)) (c_l_each_once : FnM P w K mg base 1 "_law_each_once" s_l_each_once ["_law_some"] m_l_each_once) : FnM P w K mg base 61 "_law_webbed" s_l_webbed ["_law_stream_here", "_law_places", "_law_roads", "_law_is_places"] m_l_webbed := by
  obtain ⟨fa, fd, hm, Fu⟩ := T.d_l_webbed.ex
  exact fnM (k := 60) Fu hm (Fu.binds (ps := ["_law_stream_here", "_law_places", "_law_roads", "_law_is_places"]) fun _ _ _ _ _ _ us hl => match us, hl with | [_, _, _, _], _ => rfl) sc_l_webbed fun cdv A outer s H E hr =>
    (mss_cons (ms_own (i := 4) sc_l_webbed.nd rfl (Or.inr rfl) (mc_lst ml_nil))
    (mss_cons (ms_for ownsD rfl (mi_range1 (by rfl) T.n_range (me_sub (me_var 2) (me_call c_l_draw hr (by decide) passD (by rfl) (ml_cons (me_var 0) (ml_cons (me_sub (me_var 2) me_int) ml_nil)) (argN_cons (argN_cons argN_nil))))) (mg_nm 5 (by exact sc_l_webbed.nd))
    (mss_one (ms_expr (me_append (mp_var 4) (me_tuple (by rfl) T.n_tuple (mh_of (me_slice (mh_of (me_fz (me_call c_l_mixed hr (by decide) passD (by rfl) (ml_cons (me_var 0) (ml_cons (me_frz (mc_listRg1 (by rfl) (by rfl) T.n_list (by rfl) T.n_range (me_var 1))) ml_nil)) (argN_cons (argN_cons argN_nil))))) mo_none (mo_some me_int))))))))
    (mss_cons (ms_par (i := 6) (j := 7) rfl sc_l_webbed.nd rfl rfl (by decide) rfl rfl (mp_val (me_fz (me_call c_l_mixed hr (by decide) passD (by rfl) (ml_cons (me_var 0) (ml_cons (me_frz (mc_listRg1 (by rfl) (by rfl) T.n_list (by rfl) T.n_range (me_var 1))) ml_nil)) (argN_cons (argN_cons argN_nil)))) (mp_val (me_add me_int (me_call c_l_draw hr (by decide) passD (by rfl) (ml_cons (me_var 0) (ml_cons me_int ml_nil)) (argN_cons (argN_cons argN_nil)))) mp_nil)) (by first | rfl | kernel_rfl))
    (mss_cons (ms_par3 (i := 8) (j := 9) (l := 10) rfl sc_l_webbed.nd rfl rfl rfl (by decide) (by decide) (by decide) rfl rfl rfl (mp_val (me_slice (mh_var 6) mo_none (mo_some (me_var 7))) (mp_val (me_slice (mh_var 6) (mo_some (me_var 7)) (mo_some (me_add (me_add (me_var 7) me_int) (me_call c_l_draw hr (by decide) passD (by rfl) (ml_cons (me_var 0) (ml_cons me_int ml_nil)) (argN_cons (argN_cons argN_nil)))))) (mp_own (mc_lst ml_nil) mp_nil))) (by first | rfl | kernel_rfl))
    (mss_cons (ms_for ownsD rfl (mi_seq (me_var 8)) (mg_nm 11 (by exact sc_l_webbed.nd))
    (mss_one (ms_expr (me_extend (mp_var 10) (mh_of (me_call c_l_trails hr (by decide) passD (by rfl) (ml_cons (me_var 11) (ml_cons (me_var 9) (ml_cons (me_var 4) (ml_cons (me_frz (mc_lst (ml_cons (me_var 11) ml_nil))) (ml_cons (me_frz (mc_lst ml_nil)) ml_nil))))) (argN_cons (argN_cons (argN_cons (argN_cons (argN_cons argN_nil)))))))))))
    (mss_cons (ms_if (mt_val (me_var 3))
    (mss_one (by refine ms_ownLc (i := 10) (own := [("_law_row", 12)]) ?_ ?_ ?_ ?_ ?_ ?_ ?_ ?_ ?_ ?_; exact rfl; exact sc_l_webbed.nd; exact rfl; exact rfl; exact (sw_true rfl rfl rfl (by decide +kernel)); exact (mi_seq (me_var 10)); exact (blkOk_by (N := N_l_webbed) (sc := (defScope s_l_webbed)) (scope := cs_l_webbed_0) (own := [("_law_row", 12)]) (by decide +kernel)); exact (fun _ _ _ _ _ => (mg_nm 12 (by exact sc_l_webbed.nd))); exact (fun _ _ _ _ _ => mts_nil); exact (fun _ _ _ _ _ => (me_frz (mc_cat (mh_of (me_frz (mc_lst (ml_cons (me_ix (mh_of (me_ix (mh_var 4) (me_ix (mh_var 12) me_int))) me_int) ml_nil)))) (mh_of (me_frz (by refine mc_lc (own := [("_law_number", 13)]) ?_ ?_ ?_ ?_ ?_ ?_ ?_; exact rfl; exact sc_l_webbed.nd; exact (mi_seq (me_var 12)); exact (blkOk_by (N := N_l_webbed) (sc := (relS cs_l_webbed_0 (defScope s_l_webbed))) (scope := cs_l_webbed_1) (own := [("_law_number", 13)]) (by decide +kernel)); exact (fun _ _ _ _ _ => (mg_nm 13 (by exact sc_l_webbed.nd))); exact (fun _ _ _ _ _ => mts_nil); exact (fun _ _ _ _ _ => (me_ix (mh_of (me_ix (mh_var 4) (me_var 13))) me_int))))))))))
    mss_nil)
    (mss_one (ms_ret (me_tup (ml_cons (me_if (mt_val (me_var 3)) (me_var 1) (me_len (by rfl) T.n_len (mh_var 4))) (ml_cons (me_call c_l_each_once hr (by decide) passD (by rfl) (ml_cons (me_var 10) ml_nil) (argN_cons argN_nil)) ml_nil)))))))))))
theorem ok_l_shifted (T : Txt K mg) : FnM P w K mg base 1 "_law_shifted" s_l_shifted ["_law_rows_here", "_law_far"] m_l_shifted := by
  obtain ⟨fa, fd, hm, Fu⟩ := T.d_l_shifted.ex
  exact fnM (k := 0) Fu hm (Fu.binds (ps := ["_law_rows_here", "_law_far"]) fun _ _ _ _ _ _ us hl => match us, hl with | [_, _], _ => rfl) sc_l_shifted fun cdv A outer s H E hr =>
    (mss_one (ms_ret (me_frz (by refine mc_lc (own := [("_law_row", 2)]) ?_ ?_ ?_ ?_ ?_ ?_ ?_; exact rfl; exact sc_l_shifted.nd; exact (mi_seq (me_var 0)); exact (blkOk_by (N := N_l_shifted) (sc := (defScope s_l_shifted)) (scope := cs_l_shifted_0) (own := [("_law_row", 2)]) (by decide +kernel)); exact (fun _ _ _ _ _ => (mg_nm 2 (by exact sc_l_shifted.nd))); exact (fun _ _ _ _ _ => mts_nil); exact (fun _ _ _ _ _ => (me_frz (by refine mc_lc (own := [("_law_gate", 3)]) ?_ ?_ ?_ ?_ ?_ ?_ ?_; exact rfl; exact sc_l_shifted.nd; exact (mi_seq (me_var 2)); exact (blkOk_by (N := N_l_shifted) (sc := (relS cs_l_shifted_0 (defScope s_l_shifted))) (scope := cs_l_shifted_1) (own := [("_law_gate", 3)]) (by decide +kernel)); exact (fun _ _ _ _ _ => (mg_nm 3 (by exact sc_l_shifted.nd))); exact (fun _ _ _ _ _ => mts_nil); exact (fun _ _ _ _ _ => (me_add (me_var 3) (me_var 1))))))))))
theorem ok_l_joined (T : Txt K mg) (c_l_draw : FnM P w K mg base 1 "_law_draw" s_l_draw ["_law_stream_here", "_law_many"] m_l_draw) (c_l_shifted : FnM P w K mg base 1 "_law_shifted" s_l_shifted ["_law_rows_here", "_law_far"] m_l_shifted) : FnM P w K mg base 2 "_law_joined" s_l_joined ["_law_stream_here", "_law_one", "_law_other"] m_l_joined := by
  obtain ⟨fa, fd, hm, Fu⟩ := T.d_l_joined.ex
  exact fnM (k := 1) Fu hm (Fu.binds (ps := ["_law_stream_here", "_law_one", "_law_other"]) fun _ _ _ _ _ _ us hl => match us, hl with | [_, _, _], _ => rfl) sc_l_joined fun cdv A outer s H E hr =>
    (mss_cons (ms_asg (me_tup (ml_cons (me_var 1) (ml_cons (me_var 2) (ml_cons (me_call c_l_draw hr (by decide) passD (by rfl) (ml_cons (me_var 0) (ml_cons me_int ml_nil)) (argN_cons (argN_cons argN_nil))) ml_nil)))) (mg_tp (by rfl) (mgs_cons (mg_tp (by rfl) (mgs_cons (mg_nm 3 (by exact sc_l_joined.nd)) (mgs_cons (mg_nm 4 (by exact sc_l_joined.nd)) mgs_nil))) (mgs_cons (mg_tp (by rfl) (mgs_cons (mg_nm 5 (by exact sc_l_joined.nd)) (mgs_cons (mg_nm 6 (by exact sc_l_joined.nd)) mgs_nil))) (mgs_cons (mg_nm 7 (by exact sc_l_joined.nd)) mgs_nil)))))
    (mss_cons (ms_set (i := 8) sc_l_joined.nd rfl (Or.inl rfl) (me_call c_l_shifted hr (by decide) passD (by rfl) (ml_cons (me_var 6) (ml_cons (me_var 3) ml_nil)) (argN_cons (argN_cons argN_nil))))
    (mss_cons (ms_if (mt_eq hr (me_var 7) me_int)
    (mss_one (ms_ret (me_tup (ml_cons (me_add (me_var 3) (me_var 5)) (ml_cons (me_frz (mc_cat (mh_var 4) (mh_var 8))) ml_nil)))))
    mss_nil)
    (mss_cons (ms_par (i := 9) (j := 10) rfl sc_l_joined.nd rfl rfl (by decide) rfl rfl (mp_val (me_call c_l_draw hr (by decide) passD (by rfl) (ml_cons (me_var 0) (ml_cons (me_var 3) ml_nil)) (argN_cons (argN_cons argN_nil))) (mp_own (mc_lst ml_nil) mp_nil)) (by first | rfl | kernel_rfl))
    (mss_cons (ms_for ownsD rfl (mi_seq (me_var 4)) (mg_nm 11 (by exact sc_l_joined.nd))
    (mss_cons (ms_set (i := 12) sc_l_joined.nd rfl (Or.inr rfl) (me_if (mt_in hr (me_var 9) (mh_var 11)) (me_index hr (mh_var 11) (me_var 9)) (me_neg me_int)))
    (mss_one (ms_if (mt_eq hr (me_var 7) me_int)
    (mss_one (ms_expr (me_extend (mp_var 10) (mh_of (me_frz (by refine mc_lc (own := [("_law_tail", 13)]) ?_ ?_ ?_ ?_ ?_ ?_ ?_; exact rfl; exact sc_l_joined.nd; exact (mi_seq (me_var 8)); exact (blkOk_by (N := N_l_joined) (sc := (defScope s_l_joined)) (scope := cs_l_joined_0) (own := [("_law_tail", 13)]) (by decide +kernel)); exact (fun _ _ _ _ _ => (mg_nm 13 (by exact sc_l_joined.nd))); exact (fun _ _ _ _ _ => mts_nil); exact (fun _ _ _ _ _ => (me_frz (mc_cat (mh_var 11) (mh_var 13))))))))))
    (mss_one (ms_expr (me_extend (mp_var 10) (mh_of (me_if (mt_lt (me_var 12) me_int) (me_frz (mc_lst (ml_cons (me_var 11) ml_nil))) (me_frz (by refine mc_lc (own := [("_law_tail", 13)]) ?_ ?_ ?_ ?_ ?_ ?_ ?_; exact rfl; exact sc_l_joined.nd; exact (mi_seq (me_var 8)); exact (blkOk_by (N := N_l_joined) (sc := (defScope s_l_joined)) (scope := cs_l_joined_1) (own := [("_law_tail", 13)]) (by decide +kernel)); exact (fun _ _ _ _ _ => (mg_nm 13 (by exact sc_l_joined.nd))); exact (fun _ _ _ _ _ => mts_nil); exact (fun _ _ _ _ _ => (me_frz (mc_cat (mh_of (me_frz (mc_cat (mh_of (me_slice (mh_var 11) mo_none (mo_some (me_var 12)))) (mh_var 13)))) (mh_of (me_slice (mh_var 11) (mo_some (me_add (me_var 12) me_int)) mo_none))))))))))))))))
    (mss_one (ms_ret (me_tup (ml_cons (me_add (me_var 3) (me_var 5)) (ml_cons (me_var 10) ml_nil))))))))))
theorem ok_l_drawn_book (T : Txt K mg) (c_l_draw : FnM P w K mg base 1 "_law_draw" s_l_draw ["_law_stream_here", "_law_many"] m_l_draw) (c_l_leaped : FnM P w K mg base 3 "_law_leaped" s_l_leaped ["_law_stream_here", "_law_things", "_law_top"] m_l_leaped) (c_l_webbed : FnM P w K mg base 61 "_law_webbed" s_l_webbed ["_law_stream_here", "_law_places", "_law_roads", "_law_is_places"] m_l_webbed) : FnM P w K mg base 62 "_law_drawn_book" s_l_drawn_book ["_law_stream_here", "_law_small"] m_l_drawn_book := by
  obtain ⟨fa, fd, hm, Fu⟩ := T.d_l_drawn_book.ex
  exact fnM (k := 61) Fu hm (Fu.binds (ps := ["_law_stream_here", "_law_small"]) fun _ _ _ _ _ _ us hl => match us, hl with | [_, _], _ => rfl) sc_l_drawn_book fun cdv A outer s H E hr =>
    (mss_cons (ms_set (i := 2) sc_l_drawn_book.nd rfl (Or.inl rfl) (me_call c_l_draw hr (by decide) passD (by rfl) (ml_cons (me_var 0) (ml_cons me_int ml_nil)) (argN_cons (argN_cons argN_nil))))
    (mss_cons (ms_if (mt_lt (me_var 2) me_int)
    (mss_one (ms_ret (me_call c_l_leaped hr (by decide) passD (by rfl) (ml_cons (me_var 0) (ml_cons (me_add me_int (me_call c_l_draw hr (by decide) passD (by rfl) (ml_cons (me_var 0) (ml_cons (me_if (mt_val (me_var 1)) me_int me_int) ml_nil)) (argN_cons (argN_cons argN_nil)))) (ml_cons (me_if (mt_val (me_var 1)) me_int me_int) ml_nil))) (argN_cons (argN_cons (argN_cons argN_nil))))))
    mss_nil)
    (mss_one (ms_ret (me_call c_l_webbed hr (by decide) passD (by rfl) (ml_cons (me_var 0) (ml_cons (me_add me_int (me_call c_l_draw hr (by decide) passD (by rfl) (ml_cons (me_var 0) (ml_cons (me_if (mt_val (me_var 1)) me_int me_int) ml_nil)) (argN_cons (argN_cons argN_nil)))) (ml_cons (me_if (mt_val (me_var 1)) me_int me_int) (ml_cons (me_eq hr (me_var 2) me_int) ml_nil)))) (argN_cons (argN_cons (argN_cons (argN_cons argN_nil)))))))))
theorem ok_l_fitting (T : Txt K mg) (c_l_draw : FnM P w K mg base 1 "_law_draw" s_l_draw ["_law_stream_here", "_law_many"] m_l_draw) (c_l_drawn_book : FnM P w K mg base 62 "_law_drawn_book" s_l_drawn_book ["_law_stream_here", "_law_small"] m_l_drawn_book) (c_l_joined : FnM P w K mg base 2 "_law_joined" s_l_joined ["_law_stream_here", "_law_one", "_law_other"] m_l_joined) : FnM P w K mg base 63 "_law_fitting" s_l_fitting ["_law_stream_here", "_law_gates", "_law_ways"] m_l_fitting := by
  obtain ⟨fa, fd, hm, Fu⟩ := T.d_l_fitting.ex
  exact fnM (k := 62) Fu hm (Fu.binds (ps := ["_law_stream_here", "_law_gates", "_law_ways"]) fun _ _ _ _ _ _ us hl => match us, hl with | [_, _, _], _ => rfl) sc_l_fitting fun cdv A outer s H E hr =>
    (mss_cons (ms_set (i := 3) sc_l_fitting.nd rfl (Or.inl rfl) (me_tup (ml_cons me_int (ml_cons (me_frz (mc_lst (ml_cons (me_frz (mc_lst (ml_cons me_int (ml_cons me_int ml_nil)))) ml_nil))) ml_nil))))
    (mss_cons (ms_for ownsD rfl (mi_range1 (by rfl) T.n_range me_int) (mg_nm 4 (by exact sc_l_fitting.nd))
    (mss_cons (ms_set (i := 5) sc_l_fitting.nd rfl (Or.inl rfl) (me_eq hr (me_call c_l_draw hr (by decide) passD (by rfl) (ml_cons (me_var 0) (ml_cons me_int ml_nil)) (argN_cons (argN_cons argN_nil))) me_int))
    (mss_cons (ms_set (i := 6) sc_l_fitting.nd rfl (Or.inl rfl) (me_call c_l_drawn_book hr (by decide) passD (by rfl) (ml_cons (me_var 0) (ml_cons (me_var 5) ml_nil)) (argN_cons (argN_cons argN_nil))))
    (mss_cons (ms_if (mt_val (me_var 5))
    (mss_one (ms_set (i := 6) sc_l_fitting.nd rfl (Or.inl rfl) (me_call c_l_joined hr (by decide) passD (by rfl) (ml_cons (me_var 0) (ml_cons (me_var 6) (ml_cons (me_call c_l_drawn_book hr (by decide) passD (by rfl) (ml_cons (me_var 0) (ml_cons me_bl ml_nil)) (argN_cons (argN_cons argN_nil))) ml_nil))) (argN_cons (argN_cons (argN_cons argN_nil))))))
    mss_nil)
    (mss_cons (ms_if (mt_w (mw_and (mt_le (me_ix (mh_var 6) me_int) (me_var 1)) (mw_and1 (mt_lele (me_len (by rfl) T.n_len (mh_of (me_ix (mh_var 3) me_int))) (me_len (by rfl) T.n_len (mh_of (me_ix (mh_var 6) me_int))) (me_var 2)))))
    (mss_one (ms_set (i := 3) sc_l_fitting.nd rfl (Or.inl rfl) (me_var 6)))
    mss_nil)
    (mss_one (ms_if (mt_w (mw_and (mt_gt (me_var 4) me_int) (mw_and1 (mt_gt (me_len (by rfl) T.n_len (mh_of (me_ix (mh_var 3) me_int))) (me_add me_int (me_call c_l_draw hr (by decide) passD (by rfl) (ml_cons (me_var 0) (ml_cons me_int ml_nil)) (argN_cons (argN_cons argN_nil))))))))
    (mss_one (ms_ret (me_var 3)))
    mss_nil)))))))
    (mss_one (ms_ret (me_var 3)))))
theorem ok_l_book (T : Txt K mg) (c_l_fitting : FnM P w K mg base 63 "_law_fitting" s_l_fitting ["_law_stream_here", "_law_gates", "_law_ways"] m_l_fitting) (c_l_draw : FnM P w K mg base 1 "_law_draw" s_l_draw ["_law_stream_here", "_law_many"] m_l_draw) (c_l_mixed : FnM P w K mg base 2 "_law_mixed" s_l_mixed ["_law_stream_here", "_law_things"] m_l_mixed) (c_l_lack : FnM P w K mg base 1 "_law_lack" s_l_lack ["_law_rows_here"] m_l_lack) : FnM P w K mg base 64 "_law_book" s_l_book ["_law_stream_here", "_law_gates", "_law_ways"] m_l_book := by
  obtain ⟨fa, fd, hm, Fu⟩ := T.d_l_book.ex
  exact fnM (k := 63) Fu hm (Fu.binds (ps := ["_law_stream_here", "_law_gates", "_law_ways"]) fun _ _ _ _ _ _ us hl => match us, hl with | [_, _, _], _ => rfl) sc_l_book fun cdv A outer s H E hr =>
    (mss_cons (ms_asg (me_call c_l_fitting hr (by decide) passD (by rfl) (ml_cons (me_var 0) (ml_cons (me_var 1) (ml_cons (me_var 2) ml_nil))) (argN_cons (argN_cons (argN_cons argN_nil)))) (mg_tp (by rfl) (mgs_cons (mg_nm 3 (by exact sc_l_book.nd)) (mgs_cons (mg_nm 4 (by exact sc_l_book.nd)) mgs_nil))))
    (mss_cons (ms_set (i := 3) sc_l_book.nd rfl (Or.inl rfl) (me_min2 (by rfl) (by rfl) T.n_min (me_var 1) (me_add (me_var 3) (me_call c_l_draw hr (by decide) passD (by rfl) (ml_cons (me_var 0) (ml_cons me_int ml_nil)) (argN_cons (argN_cons argN_nil))))))
    (mss_cons (ms_set (i := 5) sc_l_book.nd rfl (Or.inr rfl) (me_fz (me_call c_l_mixed hr (by decide) passD (by rfl) (ml_cons (me_var 0) (ml_cons (me_frz (mc_listRg1 (by rfl) (by rfl) T.n_list (by rfl) T.n_range (me_var 3))) ml_nil)) (argN_cons (argN_cons argN_nil)))))
    (mss_cons (ms_set (i := 7) sc_l_book.nd rfl (Or.inl rfl) (me_call c_l_mixed hr (by decide) passD (by rfl) (ml_cons (me_var 0) (ml_cons (me_frz (by refine mc_lc (own := [("_law_row", 6)]) ?_ ?_ ?_ ?_ ?_ ?_ ?_; exact rfl; exact sc_l_book.nd; exact (mi_seq (me_var 4)); exact (blkOk_by (N := N_l_book) (sc := (defScope s_l_book)) (scope := cs_l_book_0) (own := [("_law_row", 6)]) (by decide +kernel)); exact (fun _ _ _ _ _ => (mg_nm 6 (by exact sc_l_book.nd))); exact (fun _ _ _ _ _ => mts_nil); exact (fun _ _ _ _ _ => (me_frz (by refine mc_lc (own := [("_law_gate", 9)]) ?_ ?_ ?_ ?_ ?_ ?_ ?_; exact rfl; exact sc_l_book.nd; exact (mi_seq (me_var 6)); exact (blkOk_by (N := N_l_book) (sc := (relS cs_l_book_0 (defScope s_l_book))) (scope := cs_l_book_1) (own := [("_law_gate", 9)]) (by decide +kernel)); exact (fun _ _ _ _ _ => (mg_nm 9 (by exact sc_l_book.nd))); exact (fun _ _ _ _ _ => mts_nil); exact (fun _ _ _ _ _ => (me_ix (mh_var 5) (me_var 9)))))))) ml_nil)) (argN_cons (argN_cons argN_nil))))
    (mss_cons (ms_for ownsD rfl (mi_range1 (by rfl) T.n_range (me_call c_l_draw hr (by decide) passD (by rfl) (ml_cons (me_var 0) (ml_cons me_int ml_nil)) (argN_cons (argN_cons argN_nil)))) (mg_nm 8 (by exact sc_l_book.nd))
    (mss_cons (ms_set (i := 6) sc_l_book.nd rfl (Or.inl rfl) (me_slice (mh_of (me_fz (me_call c_l_mixed hr (by decide) passD (by rfl) (ml_cons (me_var 0) (ml_cons (me_frz (mc_listRg1 (by rfl) (by rfl) T.n_list (by rfl) T.n_range (me_var 3))) ml_nil)) (argN_cons (argN_cons argN_nil))))) mo_none (mo_some (me_add me_int (me_call c_l_draw hr (by decide) passD (by rfl) (ml_cons (me_var 0) (ml_cons (me_var 3) ml_nil)) (argN_cons (argN_cons argN_nil)))))))
    (mss_one (ms_if (mt_w (mw_and (mt_notin hr (me_var 6) (mh_var 7)) (mw_and (mt_lt (me_len (by rfl) T.n_len (mh_var 7)) (me_var 2)) (mw_and1 (mt_isN (me_call c_l_lack hr (by decide) passD (by rfl) (ml_cons (me_frz (mc_cat (mh_var 7) (mh_of (me_frz (mc_lst (ml_cons (me_var 6) ml_nil)))))) ml_nil) (argN_cons argN_nil)))))))
    (mss_one (ms_expr (me_append (mp_var 7) (me_var 6))))
    mss_nil))))
    (mss_one (ms_ret (me_tup (ml_cons (me_var 3) (ml_cons (me_fz (me_var 7)) ml_nil))))))))))
theorem ok_l_rows (T : Txt K mg) (c_l_mixed : FnM P w K mg base 2 "_law_mixed" s_l_mixed ["_law_stream_here", "_law_things"] m_l_mixed) (c_l_draw : FnM P w K mg base 1 "_law_draw" s_l_draw ["_law_stream_here", "_law_many"] m_l_draw) : FnM P w K mg base 3 "_law_rows" s_l_rows ["_law_stream_here", "_law_gates", "_law_many"] m_l_rows := by
  obtain ⟨fa, fd, hm, Fu⟩ := T.d_l_rows.ex
  exact fnM (k := 2) Fu hm (Fu.binds (ps := ["_law_stream_here", "_law_gates", "_law_many"]) fun _ _ _ _ _ _ us hl => match us, hl with | [_, _, _], _ => rfl) sc_l_rows fun cdv A outer s H E hr =>
    (mss_cons (ms_own (i := 3) sc_l_rows.nd rfl (Or.inl rfl) (mc_lst ml_nil))
    (mss_cons (ms_for ownsD rfl (mi_range1 (by rfl) T.n_range (me_var 2)) (mg_nm 4 (by exact sc_l_rows.nd))
    (mss_cons (ms_set (i := 5) sc_l_rows.nd rfl (Or.inl rfl) (me_slice (mh_of (me_fz (me_call c_l_mixed hr (by decide) passD (by rfl) (ml_cons (me_var 0) (ml_cons (me_frz (mc_listRg1 (by rfl) (by rfl) T.n_list (by rfl) T.n_range (me_var 1))) ml_nil)) (argN_cons (argN_cons argN_nil))))) mo_none (mo_some (me_add me_int (me_call c_l_draw hr (by decide) passD (by rfl) (ml_cons (me_var 0) (ml_cons (me_var 1) ml_nil)) (argN_cons (argN_cons argN_nil)))))))
    (mss_one (ms_if (mt_notin hr (me_var 5) (mh_var 3))
    (mss_one (ms_expr (me_append (mp_var 3) (me_var 5))))
    mss_nil))))
    (mss_one (ms_ret (me_var 3)))))
theorem ok_l_told_right (T : Txt K mg) (c_l_loose : FnM P w K mg base 61 "_law_loose" s_l_loose ["_law_stream_here", "_law_thing"] (m_l_loose 60)) (c_Book_init : MkM P w K mg base 5 "Book" "Book.__init__" s_Book_init ["self", "gates", "ways"] m_Book_init) (c_l_same : FnM P w K mg base 60 "_law_same" s_l_same ["_law_found", "_law_due"] (m_l_same 60)) (c_Book_ways : MtM P w K mg base 1 "Book" "ways" "Book.ways" s_Book_ways ["self"] m_Book_ways) (c_Book_gates : MtM P w K mg base 1 "Book" "gates" "Book.gates" s_Book_gates ["self"] m_Book_gates) (e_Book : EqM P w K mg base 1 "Book" ["self", "other"] m_Book_eq clss) : FnM P w K mg base 62 "_law_told_right" s_l_told_right ["_law_stream_here", "_law_gates", "_law_rows_here"] m_l_told_right := by
  obtain ⟨fa, fd, hm, Fu⟩ := T.d_l_told_right.ex
  exact fnM (k := 61) Fu hm (Fu.binds (ps := ["_law_stream_here", "_law_gates", "_law_rows_here"]) fun _ _ _ _ _ _ us hl => match us, hl with | [_, _, _], _ => rfl) sc_l_told_right fun cdv A outer s H E hr =>
    (mss_cons (ms_set (i := 3) sc_l_told_right.nd rfl (Or.inl rfl) (me_call c_l_loose hr (by decide) passD (by rfl) (ml_cons (me_var 0) (ml_cons (me_var 2) ml_nil)) (argN_cons (argN_cons argN_nil))))
    (mss_cons (by refine ms_setLc (i := 5) (k := boxC) (own := [("_law_row", 4)]) ?_ ?_ ?_ ?_ ?_ ?_ ?_ ?_ ?_ ?_ ?_; exact rfl; exact sc_l_told_right.nd; exact rfl; exact rfl; exact (sw_true rfl rfl rfl (by decide +kernel)); exact (mi_seq (me_var 2)); exact (blkOk_by (N := N_l_told_right) (sc := (defScope s_l_told_right)) (scope := cs_l_told_right_0) (own := [("_law_row", 4)]) (by decide +kernel)); exact (fun _ _ _ _ _ => (mg_nm 4 (by exact sc_l_told_right.nd))); exact (fun _ _ _ _ _ => mts_nil); exact (fun _ _ _ _ _ => (me_box (mc_list (by rfl) T.n_list (mh_var 4)))); exact (by first | exact .inl rfl | exact .inr rfl))
    (mss_cons (ms_par (i := 6) (j := 7) rfl sc_l_told_right.nd rfl rfl (by decide) rfl rfl (mp_val (me_make c_Book_init hr (by decide) passD (by rfl) (ml_cons (me_var 1) (ml_cons (me_var 3) ml_nil)) (argN_cons (argN_cons argN_nil))) (mp_val (me_makeK c_Book_init (show KwB "__init__" "Book.__init__" s_Book_init ["self", "gates", "ways"] ["ways", "gates"] 1 [1, 0] from fun _ _ _ _ _ _ us ws h1 h2 => match us, ws, h1, h2 with | [_], [_, _], _, _ => rfl) hr (by decide) passD (by rfl) (mk_cons (me_var 5) (mk_cons (me_var 1) mk_nil)) (argN_cons (argN_cons argN_nil))) mp_nil)) (by first | rfl | kernel_rfl))
    (mss_cons (ms_for ownsD rfl (mi_seq (me_var 5)) (mg_nm 4 (by exact sc_l_told_right.nd))
    (mss_cons (ms_expr (me_reverse (mp_var 4)))
    (mss_one (ms_expr (me_append (mp_var 4) (me_add (me_var 1) me_int))))))
    (mss_cons (ms_expr (me_append (mp_var 5) me_str))
    (mss_cons (ms_if (mt_not (mt_val (me_call c_l_same hr (by decide) passD (by rfl) (ml_cons (me_frz (mc_lst (ml_cons (me_meth0 c_Book_gates hr (by decide) passD (me_var 6)) (ml_cons (me_meth0 c_Book_ways hr (by decide) passD (me_var 6)) (ml_cons (me_meth0 c_Book_gates hr (by decide) passD (me_var 7)) (ml_cons (me_meth0 c_Book_ways hr (by decide) passD (me_var 7)) ml_nil)))))) (ml_cons (me_frz (mc_lst (ml_cons (me_var 1) (ml_cons (me_var 2) (ml_cons (me_var 1) (ml_cons (me_var 2) ml_nil)))))) ml_nil)) (argN_cons (argN_cons argN_nil)))))
    (mss_one (ms_ret me_bl))
    mss_nil)
    (mss_cons (ms_set (i := 8) sc_l_told_right.nd rfl (Or.inl rfl) (me_meth0 c_Book_ways hr (by decide) passD (me_var 6)))
    (mss_cons (ms_for ownsD rfl (mi_seq (me_var 8)) (mg_nm 4 (by exact sc_l_told_right.nd))
    (mss_one (ms_expr (me_append (mp_var 4) me_str))))
    (mss_cons (ms_expr (me_append (mp_var 8) me_str))
    (mss_one (ms_ret (me_and (me_call c_l_same hr (by decide) passD (by rfl) (ml_cons (me_meth0 c_Book_ways hr (by decide) passD (me_var 6)) (ml_cons (me_var 2) ml_nil)) (argN_cons (argN_cons argN_nil))) (me_and (me_ownEq e_Book T.kit hr (by decide) passD (me_var 6) (me_var 7)) (me_one (me_not (me_ownNe e_Book T.kit hr (by decide) passD (me_var 6) (me_var 7)))))))))))))))))
theorem ok_l_unlike_right (T : Txt K mg) (c_Book_init : MkM P w K mg base 5 "Book" "Book.__init__" s_Book_init ["self", "gates", "ways"] m_Book_init) (e_Book : EqM P w K mg base 1 "Book" ["self", "other"] m_Book_eq clss) : FnM P w K mg base 7 "_law_unlike_right" s_l_unlike_right ["_law_stream_here", "_law_gates", "_law_rows_here"] m_l_unlike_right := by
  obtain ⟨fa, fd, hm, Fu⟩ := T.d_l_unlike_right.ex
  exact fnM (k := 6) Fu hm (Fu.binds (ps := ["_law_stream_here", "_law_gates", "_law_rows_here"]) fun _ _ _ _ _ _ us hl => match us, hl with | [_, _, _], _ => rfl) sc_l_unlike_right fun cdv A outer s H E hr =>
    (mss_cons (ms_asg (me_tup (ml_cons (me_make c_Book_init hr (by decide) passD (by rfl) (ml_cons (me_var 1) (ml_cons (me_var 2) ml_nil)) (argN_cons (argN_cons argN_nil))) (ml_cons (me_box (mc_lst (ml_cons (me_make c_Book_init hr (by decide) passD (by rfl) (ml_cons (me_add (me_var 1) me_int) (ml_cons (me_var 2) ml_nil)) (argN_cons (argN_cons argN_nil))) (ml_cons (me_make c_Book_init hr (by decide) passD (by rfl) (ml_cons (me_var 1) (ml_cons (me_slice (mh_var 2) mo_none (mo_some (me_neg me_int))) ml_nil)) (argN_cons (argN_cons argN_nil))) ml_nil)))) ml_nil))) (mg_tp (by rfl) (mgs_cons (mg_nm 3 (by exact sc_l_unlike_right.nd)) (mgs_cons (mg_nm 4 (by exact sc_l_unlike_right.nd)) mgs_nil))))
    (mss_cons (ms_if (mt_gt (me_len (by rfl) T.n_len (mh_var 2)) me_int)
    (mss_one (ms_expr (me_append (mp_var 4) (me_make c_Book_init hr (by decide) passD (by rfl) (ml_cons (me_var 1) (ml_cons (me_frz (mc_cat (mh_of (me_slice (mh_var 2) (mo_some me_int) mo_none)) (mh_of (me_slice (mh_var 2) mo_none (mo_some me_int))))) ml_nil)) (argN_cons (argN_cons argN_nil))))))
    mss_nil)
    (mss_cons (ms_for ownsD rfl (mi_enum (by rfl) T.n_enumerate (me_var 2)) (mg_tp (by rfl) (mgs_cons (mg_nm 5 (by exact sc_l_unlike_right.nd)) (mgs_cons (mg_nm 6 (by exact sc_l_unlike_right.nd)) mgs_nil)))
    (mss_one (ms_if (mt_notin hr (me_frz (mc_rev (mh_var 6))) (mh_var 2))
    (mss_one (ms_expr (me_append (mp_var 4) (me_make c_Book_init hr (by decide) passD (by rfl) (ml_cons (me_var 1) (ml_cons (me_frz (mc_cat (mh_of (me_frz (mc_cat (mh_of (me_slice (mh_var 2) mo_none (mo_some (me_var 5)))) (mh_of (me_frz (mc_lst (ml_cons (me_frz (mc_rev (mh_var 6))) ml_nil))))))) (mh_of (me_slice (mh_var 2) (mo_some (me_add (me_var 5) me_int)) mo_none)))) ml_nil)) (argN_cons (argN_cons argN_nil))))))
    mss_nil)))
    (mss_cons (ms_if (mt_val (me_any (by rfl) (by rfl) T.n_any (mh_of (me_frz (by refine mc_lc (own := [("_law_other", 8)]) ?_ ?_ ?_ ?_ ?_ ?_ ?_; exact rfl; exact sc_l_unlike_right.nd; exact (mi_seq (me_var 4)); exact (blkOk_by (N := N_l_unlike_right) (sc := (defScope s_l_unlike_right)) (scope := cs_l_unlike_right_0) (own := [("_law_other", 8)]) (by decide +kernel)); exact (fun _ _ _ _ _ => (mg_nm 8 (by exact sc_l_unlike_right.nd))); exact (fun _ _ _ _ _ => mts_nil); exact (fun _ _ _ _ _ => (me_or (me_ownEq e_Book T.kit hr (by decide) passL (me_var 3) (me_var 8)) (me_one (me_not (me_ownNe e_Book T.kit hr (by decide) passL (me_var 3) (me_var 8)))))))))))
    (mss_one (ms_ret me_bl))
    mss_nil)
    (mss_cons (ms_set (i := 7) sc_l_unlike_right.nd rfl (Or.inl rfl) (me_frz (mc_lst (ml_cons me_non (ml_cons me_int (ml_cons me_bl (ml_cons me_str (ml_cons (me_tup ml_nil) (ml_cons (me_var 2) (ml_cons (me_tup (ml_cons (me_var 1) (ml_cons (me_var 2) ml_nil))) (ml_cons (me_box mc_dK) (ml_cons (me_frz (mc_lst (ml_cons (me_var 3) ml_nil))) (ml_cons (me_gloE (by rfl) T.g_l_pick) ml_nil)))))))))))))
    (mss_one (ms_ret (me_and (me_not (me_any (by rfl) (by rfl) T.n_any (mh_of (me_frz (by refine mc_lc (own := [("_law_thing", 9)]) ?_ ?_ ?_ ?_ ?_ ?_ ?_; exact rfl; exact sc_l_unlike_right.nd; exact (mi_seq (me_var 7)); exact (blkOk_by (N := N_l_unlike_right) (sc := (defScope s_l_unlike_right)) (scope := cs_l_unlike_right_1) (own := [("_law_thing", 9)]) (by decide +kernel)); exact (fun _ _ _ _ _ => (mg_nm 9 (by exact sc_l_unlike_right.nd))); exact (fun _ _ _ _ _ => mts_nil); exact (fun _ _ _ _ _ => (me_or (me_ownEq e_Book T.kit hr (by decide) passL (me_var 3) (me_var 9)) (me_one (me_not (me_ownNe e_Book T.kit hr (by decide) passL (me_var 3) (me_var 9))))))))))) (me_one (me_ownEq e_Book T.kit hr (by decide) passD (me_var 3) (me_make c_Book_init hr (by decide) passD (by rfl) (ml_cons (me_var 1) (ml_cons (me_tuple (by rfl) T.n_tuple (mh_var 2)) ml_nil)) (argN_cons (argN_cons argN_nil)))))))))))))
theorem ok_law (T : Txt K mg) (c_l_stream : FnM P w K mg base 1 "_law_stream" s_l_stream ["_law_script"] m_l_stream) (c_l_book : FnM P w K mg base 64 "_law_book" s_l_book ["_law_stream_here", "_law_gates", "_law_ways"] m_l_book) (c_l_told_right : FnM P w K mg base 62 "_law_told_right" s_l_told_right ["_law_stream_here", "_law_gates", "_law_rows_here"] m_l_told_right) (c_l_unlike_right : FnM P w K mg base 7 "_law_unlike_right" s_l_unlike_right ["_law_stream_here", "_law_gates", "_law_rows_here"] m_l_unlike_right) (c_l_draw : FnM P w K mg base 1 "_law_draw" s_l_draw ["_law_stream_here", "_law_many"] m_l_draw) (c_l_rows : FnM P w K mg base 3 "_law_rows" s_l_rows ["_law_stream_here", "_law_gates", "_law_many"] m_l_rows) (c_Book_init : MkM P w K mg base 5 "Book" "Book.__init__" s_Book_init ["self", "gates", "ways"] m_Book_init) (c_l_same : FnM P w K mg base 60 "_law_same" s_l_same ["_law_found", "_law_due"] (m_l_same 60)) (c_Book_ways : MtM P w K mg base 1 "Book" "ways" "Book.ways" s_Book_ways ["self"] m_Book_ways) (c_Book_gates : MtM P w K mg base 1 "Book" "gates" "Book.gates" s_Book_gates ["self"] m_Book_gates) (e_Book : EqM P w K mg base 1 "Book" ["self", "other"] m_Book_eq clss) : FnM P w K mg base 65 "law" s_law ["_law_script"] m_law := by
  obtain ⟨fa, fd, hm, Fu⟩ := T.d_law.ex
  exact fnM (k := 64) Fu hm (Fu.binds (ps := ["_law_script"]) fun _ _ _ _ _ _ us hl => match us, hl with | [_], _ => rfl) sc_law fun cdv A outer s H E hr =>
    (mss_cons (ms_set (i := 1) sc_law.nd rfl (Or.inl rfl) (me_call c_l_stream hr (by decide) passD (by rfl) (ml_cons (me_var 0) ml_nil) (argN_cons argN_nil)))
    (mss_cons (ms_for ownsD rfl (mi_range1 (by rfl) T.n_range me_int) (mg_nm 2 (by exact sc_law.nd))
    (mss_cons (ms_asg (me_call c_l_book hr (by decide) passD (by rfl) (ml_cons (me_var 1) (ml_cons me_int (ml_cons me_int ml_nil))) (argN_cons (argN_cons (argN_cons argN_nil)))) (mg_tp (by rfl) (mgs_cons (mg_nm 3 (by exact sc_law.nd)) (mgs_cons (mg_nm 4 (by exact sc_law.nd)) mgs_nil))))
    (mss_cons (ms_if (mt_w (mw_or (mt_not (mt_val (me_call c_l_told_right hr (by decide) passD (by rfl) (ml_cons (me_var 1) (ml_cons (me_var 3) (ml_cons (me_var 4) ml_nil))) (argN_cons (argN_cons (argN_cons argN_nil)))))) (mw_or1 (mt_not (mt_val (me_call c_l_unlike_right hr (by decide) passD (by rfl) (ml_cons (me_var 1) (ml_cons (me_var 3) (ml_cons (me_var 4) ml_nil))) (argN_cons (argN_cons (argN_cons argN_nil)))))))))
    (mss_one (ms_ret me_bl))
    mss_nil)
    (mss_cons (ms_set (i := 3) sc_law.nd rfl (Or.inl rfl) (me_add me_int (me_call c_l_draw hr (by decide) passD (by rfl) (ml_cons (me_var 1) (ml_cons me_int ml_nil)) (argN_cons (argN_cons argN_nil)))))
    (mss_cons (ms_set (i := 4) sc_law.nd rfl (Or.inl rfl) (me_call c_l_rows hr (by decide) passD (by rfl) (ml_cons (me_var 1) (ml_cons (me_var 3) (ml_cons (me_add me_int (me_call c_l_draw hr (by decide) passD (by rfl) (ml_cons (me_var 1) (ml_cons me_int ml_nil)) (argN_cons (argN_cons argN_nil)))) ml_nil))) (argN_cons (argN_cons (argN_cons argN_nil)))))
    (mss_one (ms_if (mt_w (mw_or (mt_not (mt_val (me_call c_l_told_right hr (by decide) passD (by rfl) (ml_cons (me_var 1) (ml_cons (me_var 3) (ml_cons (me_var 4) ml_nil))) (argN_cons (argN_cons (argN_cons argN_nil)))))) (mw_or1 (mt_not (mt_val (me_call c_l_unlike_right hr (by decide) passD (by rfl) (ml_cons (me_var 1) (ml_cons (me_min2 (by rfl) (by rfl) T.n_min (me_var 3) me_int) (ml_cons (me_frz (mc_lst (ml_cons (me_frz (mc_lst (ml_cons me_int ml_nil))) ml_nil))) ml_nil))) (argN_cons (argN_cons (argN_cons argN_nil)))))))))
    (mss_one (ms_ret me_bl))
    mss_nil)))))))
    (mss_cons (ms_set (i := 5) sc_law.nd rfl (Or.inl rfl) (me_make c_Book_init hr (by decide) passD (by rfl) (ml_cons me_int (ml_cons (me_frz (mc_lst ml_nil)) ml_nil)) (argN_cons (argN_cons argN_nil))))
    (mss_one (ms_ret (me_and (me_call c_l_same hr (by decide) passD (by rfl) (ml_cons (me_frz (mc_lst (ml_cons (me_meth0 c_Book_gates hr (by decide) passD (me_var 5)) (ml_cons (me_meth0 c_Book_ways hr (by decide) passD (me_var 5)) (ml_cons (me_meth0 c_Book_ways hr (by decide) passD (me_make c_Book_init hr (by decide) passD (by rfl) (ml_cons me_int (ml_cons (me_tup ml_nil) ml_nil)) (argN_cons (argN_cons argN_nil)))) ml_nil))))) (ml_cons (me_frz (mc_lst (ml_cons me_int (ml_cons (me_frz (mc_lst ml_nil)) (ml_cons (me_frz (mc_lst ml_nil)) ml_nil))))) ml_nil)) (argN_cons (argN_cons argN_nil))) (me_one (me_not (me_ownEq e_Book T.kit hr (by decide) passD (me_var 5) (me_make c_Book_init hr (by decide) passD (by rfl) (ml_cons me_int (ml_cons (me_frz (mc_lst ml_nil)) ml_nil)) (argN_cons (argN_cons argN_nil))))))))))))
end
/-! all defs -/
section
variable {P : Program} {w : World} {K : PySem.W.Frag} {mg : Str → Option Value} {base : Heap}
theorem ok_all (T : Txt K mg) : FnM P w K mg base 65 "law" s_law ["_law_script"] m_law := by
  have c_is_integer : FnM P w K mg base 1 "is_integer" s_is_integer ["thing"] m_is_integer := ok_is_integer T
  have c_is_number : FnM P w K mg base 2 "is_number" s_is_number ["thing"] m_is_number := ok_is_number T c_is_integer
  have c_is_list : FnM P w K mg base 1 "is_list" s_is_list ["thing"] m_is_list := ok_is_list T
  have c_are_unlike : FnM P w K mg base 3 "are_unlike" s_are_unlike ["thing", "bound"] m_are_unlike := ok_are_unlike T c_is_list c_is_number
  have c_first_bad_way : FnM P w K mg base 4 "first_bad_way" s_first_bad_way ["gates", "ways"] m_first_bad_way := ok_first_bad_way T c_is_list c_are_unlike
  have c_Book_init : MkM P w K mg base 5 "Book" "Book.__init__" s_Book_init ["self", "gates", "ways"] m_Book_init := ok_Book_init T c_is_number c_first_bad_way
  have c_Book_gates : MtM P w K mg base 1 "Book" "gates" "Book.gates" s_Book_gates ["self"] m_Book_gates := ok_Book_gates T
  have c_Book_ways : MtM P w K mg base 1 "Book" "ways" "Book.ways" s_Book_ways ["self"] m_Book_ways := ok_Book_ways T
  have e_Book : EqM P w K mg base 1 "Book" ["self", "other"] m_Book_eq clss := ok_Book_eq T
  have c_l_stream : FnM P w K mg base 1 "_law_stream" s_l_stream ["_law_script"] m_l_stream := ok_l_stream T
  have c_l_draw : FnM P w K mg base 1 "_law_draw" s_l_draw ["_law_stream_here", "_law_many"] m_l_draw := ok_l_draw T
  have c_l_pick : FnM P w K mg base 2 "_law_pick" s_l_pick ["_law_stream_here", "_law_things"] m_l_pick := ok_l_pick T c_l_draw
  have c_l_mixed : FnM P w K mg base 2 "_law_mixed" s_l_mixed ["_law_stream_here", "_law_things"] m_l_mixed := ok_l_mixed T c_l_draw
  have c_l_same : FnM P w K mg base 60 "_law_same" s_l_same ["_law_found", "_law_due"] (m_l_same 60) := ok_l_same T 60
  have c_l_loose : FnM P w K mg base 61 "_law_loose" s_l_loose ["_law_stream_here", "_law_thing"] (m_l_loose 60) := ok_l_loose T c_l_draw 60
  have c_l_lack : FnM P w K mg base 1 "_law_lack" s_l_lack ["_law_rows_here"] m_l_lack := ok_l_lack T
  have c_l_leaped : FnM P w K mg base 3 "_law_leaped" s_l_leaped ["_law_stream_here", "_law_things", "_law_top"] m_l_leaped := ok_l_leaped T c_l_draw c_l_mixed
  have c_l_trails : FnM P w K mg base 60 "_law_trails" s_l_trails ["_law_here", "_law_ends", "_law_roads", "_law_met", "_law_row"] (m_l_trails 60) := ok_l_trails T 60
  have c_l_each_once : FnM P w K mg base 1 "_law_each_once" s_l_each_once ["_law_some"] m_l_each_once := ok_l_each_once T
  have c_l_webbed : FnM P w K mg base 61 "_law_webbed" s_l_webbed ["_law_stream_here", "_law_places", "_law_roads", "_law_is_places"] m_l_webbed := ok_l_webbed T c_l_draw c_l_mixed c_l_trails c_l_each_once
  have c_l_shifted : FnM P w K mg base 1 "_law_shifted" s_l_shifted ["_law_rows_here", "_law_far"] m_l_shifted := ok_l_shifted T
  have c_l_joined : FnM P w K mg base 2 "_law_joined" s_l_joined ["_law_stream_here", "_law_one", "_law_other"] m_l_joined := ok_l_joined T c_l_draw c_l_shifted
  have c_l_drawn_book : FnM P w K mg base 62 "_law_drawn_book" s_l_drawn_book ["_law_stream_here", "_law_small"] m_l_drawn_book := ok_l_drawn_book T c_l_draw c_l_leaped c_l_webbed
  have c_l_fitting : FnM P w K mg base 63 "_law_fitting" s_l_fitting ["_law_stream_here", "_law_gates", "_law_ways"] m_l_fitting := ok_l_fitting T c_l_draw c_l_drawn_book c_l_joined
  have c_l_book : FnM P w K mg base 64 "_law_book" s_l_book ["_law_stream_here", "_law_gates", "_law_ways"] m_l_book := ok_l_book T c_l_fitting c_l_draw c_l_mixed c_l_lack
  have c_l_rows : FnM P w K mg base 3 "_law_rows" s_l_rows ["_law_stream_here", "_law_gates", "_law_many"] m_l_rows := ok_l_rows T c_l_mixed c_l_draw
  have c_l_told_right : FnM P w K mg base 62 "_law_told_right" s_l_told_right ["_law_stream_here", "_law_gates", "_law_rows_here"] m_l_told_right := ok_l_told_right T c_l_loose c_Book_init c_l_same c_Book_ways c_Book_gates e_Book
  have c_l_unlike_right : FnM P w K mg base 7 "_law_unlike_right" s_l_unlike_right ["_law_stream_here", "_law_gates", "_law_rows_here"] m_l_unlike_right := ok_l_unlike_right T c_Book_init e_Book
  have c_law : FnM P w K mg base 65 "law" s_law ["_law_script"] m_law := ok_law T c_l_stream c_l_book c_l_told_right c_l_unlike_right c_l_draw c_l_rows c_Book_init c_l_same c_Book_ways c_Book_gates e_Book
  exact c_law
theorem of_txt {P : Program} {w : World} (T : Txt K mg) : DefIn K mg "law" s_law ∧ ∀ base : Heap, FnM P w K mg base 65 "law" s_law ["_law_script"] m_law := ⟨T.d_law, fun base => ok_all T⟩
end
end Lw
end

section
/-! K01c: the stream and its draws. -/
namespace Lw
open PySem L2 Mm
/-- the stream at r (its numbers at r0), c draws so far at most -/
structure St (g : G) (r r0 : Nat) (c : Int) : Prop where
  ex : ∃ (xs : List Int) (a n k : Int), g.cs r = some (.lst [.box r0, .int a, .int n, .int k]) ∧ g.cs r0 = some (.lst (xs.map D.int)) ∧ 0 ≤ a ∧ 0 ≤ n ∧ n ≤ c ∧ 0 ≤ k ∧ k < 2147483647
  ne : r ≠ r0
  l1 : r < g.nx
  l2 : r0 < g.nx
/-- nothing else is touched -/
structure Fr (r r0 : Nat) (g g' : G) : Prop where
  nx : g.nx ≤ g'.nx
  cs : ∀ q, q < g.nx → q ≠ r → q ≠ r0 → g'.cs q = g.cs q
theorem Fr.refl {r r0 : Nat} (g : G) : Fr r r0 g g := ⟨Nat.le_refl _, fun _ _ _ _ => rfl⟩
theorem Fr.trans {r r0 : Nat} {g g1 g2 : G} (a : Fr r r0 g g1) (b : Fr r r0 g1 g2) : Fr r r0 g g2 := ⟨Nat.le_trans a.nx b.nx, fun q h1 h2 h3 => (b.cs q (Nat.lt_of_lt_of_le h1 a.nx) h2 h3).trans (a.cs q h1 h2 h3)⟩
theorem St.mono {g : G} {r r0 : Nat} {c c' : Int} (s : St g r r0 c) (h : c ≤ c') : St g r r0 c' := by
  obtain ⟨xs, a, n, k, h1, h2, h3, h4, h5, h6, h7⟩ := s.ex
  exact ⟨⟨xs, a, n, k, h1, h2, h3, h4, by omega, h6, h7⟩, s.ne, s.l1, s.l2⟩
theorem put_cs {g : G} {r q : Nat} {x : Cell} : (g.put r x).cs q = if q = r then some x else g.cs q := rfl
theorem put_nx {g : G} {r : Nat} {x : Cell} : (g.put r x).nx = g.nx := rfl
theorem add_nx {g : G} {x : Cell} : (g.add x).nx = g.nx + 1 := rfl
theorem add_cs {g : G} {q : Nat} {x : Cell} : (g.add x).cs q = if q = g.nx then some x else g.cs q := rfl
theorem del_nx {g : G} {r : Nat} : (g.del r).nx = g.nx := rfl
theorem del_cs' {g : G} {r q : Nat} : (g.del r).cs q = if q = r then none else g.cs q := rfl
theorem ok_v1 {S : Sg} {m : M D} {f : D → M D} {Q : D → Sg → Prop} : Ok (v1 m f S) Q ↔ Ok (m S) fun d S1 => Ok (f d S1) Q := by unfold v1; exact ok_bd
@[simp] theorem ok_absF {S : Sg} {i : Int} {Q : D → Sg → Prop} : Ok (absF (.int i) S) Q ↔ Q (.int (if i < 0 then -i else i)) S := ok_ok
@[simp] theorem ok_intF {S : Sg} {i : Int} {Q : D → Sg → Prop} : Ok (intF (.int i) S) Q ↔ Q (.int i) S := ok_ok
theorem log2_le {n k : Nat} (h : n < 2 ^ k) : n.log2 ≤ k := by
  by_cases z : n = 0
  · subst z; simp
  · exact Nat.le_of_lt ((Nat.log2_lt z).mpr h)
theorem cmulW_of {i j : Int} {a b : Nat} (h1 : i.natAbs < 2 ^ a) (h2 : j.natAbs < 2 ^ b) (h : a + b < 1000000) : CMulW i j := by
  unfold CMulW
  have := log2_le h1
  have := log2_le h2
  omega
theorem vw_boxI {sl : List Slot} {g : G} {r : Nat} : vwH ⟨sl, g⟩ (.d (.box r)) = match g.cs r with | some (.lst xs) => some (true, xs) | _ => none := rfl
theorem vwD_boxI {sl : List Slot} {g : G} {r : Nat} : vwD ⟨sl, g⟩ (.box r) = match g.cs r with | some (.lst xs) => some (true, xs) | _ => none := rfl
theorem vw_slI {sl : List Slot} {g : G} {n : Nat} : vwH ⟨sl, g⟩ (.sl n) = match sl[n]? with | some (.val d) => vwD ⟨sl, g⟩ d | some (.own (.lst xs)) => some (true, xs) | _ => none := rfl
theorem at4_0 {a b c d : D} : atI [a, b, c, d] 0 = some a := rfl
theorem at4_1 {a b c d : D} : atI [a, b, c, d] 1 = some b := rfl
theorem at4_2 {a b c d : D} : atI [a, b, c, d] 2 = some c := rfl
theorem at4_3 {a b c d : D} : atI [a, b, c, d] 3 = some d := rfl
theorem set4_1 {a b c d x : D} : setC (.lst [a, b, c, d]) (.int 1) x = some (.lst [a, x, c, d]) := rfl
theorem set4_2 {a b c d x : D} : setC (.lst [a, b, c, d]) (.int 2) x = some (.lst [a, b, x, d]) := rfl
theorem set4_3 {a b c d x : D} : setC (.lst [a, b, c, d]) (.int 3) x = some (.lst [a, b, c, x]) := rfl
/-- what the draw's loop keeps: many in its slot, the stream at r -/
def DrI (g : G) (r r0 : Nat) (many n : Int) (l : Nat) (S : Sg) : Prop := ∃ (y : Slot) (xs : List Int) (a k : Int), S.sl = [.val (.box r), .val (.int many), y, .emp, .emp] ∧ xs.length = l ∧ S.g.cs r = some (.lst [.box r0, .int a, .int n, .int k]) ∧ S.g.cs r0 = some (.lst (xs.map D.int)) ∧
  0 ≤ a ∧ 0 ≤ k ∧ k < 2147483647 ∧ Fr r r0 g S.g
theorem popAt0 {xs : List D} {x : D} : popAtF [.int 0] (x :: xs) = some (x, xs) := by
  show (if -(2 ^ 63) ≤ (0 : Int) ∧ (0 : Int) < 2 ^ 63 then (match seqIndex? 0 (x :: xs).length with
    | some k => match (x :: xs)[k]? with | some d => some (d, (x :: xs).eraseIdx k) | none => none
    | none => none) else none) = _
  rw [if_pos (by decide)]
  have e : seqIndex? 0 (x :: xs).length = some 0 := by
    unfold seqIndex?
    simp
  rw [e]
  rfl
theorem fr_put {g g' : G} {r r0 : Nat} (f : Fr r r0 g g') {x : Cell} : Fr r r0 g (g'.put r x) := ⟨f.nx, fun q h1 h2 h3 => by rw [put_cs, if_neg h2]; exact f.cs q h1 h2 h3⟩
theorem fr_put0 {g g' : G} {r r0 : Nat} (f : Fr r r0 g g') {x : Cell} : Fr r r0 g (g'.put r0 x) := ⟨f.nx, fun q h1 h2 h3 => by rw [put_cs, if_neg h3]; exact f.cs q h1 h2 h3⟩
theorem draw_ok {g : G} {r r0 : Nat} {c many : Int} (s : St g r r0 c) (hc : c ≤ 100000000000000) (h1 : 1 ≤ many) (h2 : many ≤ 4611686018427387904) :
    Ok (m_l_draw [.box r, .int many] ⟨[], g⟩) fun d S => S.sl = [] ∧ St S.g r r0 (c + 1) ∧ Fr r r0 g S.g ∧ ∃ z : Int, d = .int z ∧ 0 ≤ z ∧ z < many := by
  obtain ⟨⟨xs, a, n, k, e1, e2, ha, hn, hnc, hk, hk2⟩, hne, l1, l2⟩ := s
  have hne' : r0 ≠ r := fun h => hne h.symm
  unfold m_l_draw
  rw [ok_runF]
  unfold b_l_draw
  simp [slots, ok_seqM, ok_ixM, ok_hdN, vw_boxI, e1, ok_ixPI, at4_2, ok_plN, set4_2, List.replicate]
  refine Ok.imp (Q := fun f S => f = Fl.nx ∧ ∃ l, DrI g r r0 many (n + 1) l S) (ok_whM (DrI g r r0 many (n + 1)) xs.length ⟨.emp, xs, a, k, rfl, rfl, by rw [put_cs, if_pos rfl], by rw [put_cs, if_neg hne']; exact e2, ha, hk, hk2, fr_put (.refl g)⟩ ?_) ?_
  · rintro l ⟨sl, g1⟩ ⟨y, ys, a, k, rfl, rfl, e1, e2, ha, hk, hk2, f⟩
    have e1 : g1.cs r = some (.lst [.box r0, .int a, .int (n + 1), .int k]) := e1
    have e2 : g1.cs r0 = some (.lst (ys.map D.int)) := e2
    have f : Fr r r0 g g1 := f
    simp [ok_andM, ok_ixM, ok_hdN, vw_boxI, e1, e2, ok_ixPI, at4_0, at4_1, ok_eqHM, pyV, pyDs_ints, pyDs, eqP, SeqAt.shaped, PyData.canLay0, PyData.depth, canLay_ints, depthAll_ints, PyData.depthAll, PyData.canLayAll0]
    cases ys with
    | nil =>
      simp [PyData.eqv, PyData.eqvAll]
      exact ⟨_, _, [], a, k, rfl, rfl, e1, e2, ha, hk, hk2, f⟩
    | cons x ys =>
      simp [PyData.eqv, PyData.eqvAll]
      split
      · simp [ok_seqM, ok_v1, ok_mutM, ok_ixM, ok_hdN, vw_boxI, e1, e2, ok_ixPI, at4_0, popAt0, ok_rd, put_cs, hne, hne', at4_3, ok_plN, set4_3]
        refine ⟨cmulW_of (a := 31) (b := 13) (by omega) (by decide) (by decide), ?_⟩
        have hcell : 0 ≤ (if x < 0 then -x else x) := by split <;> omega
        generalize (if x < 0 then -x else x) = cell at hcell ⊢
        simp [ok_ifM, ok_rd, ok_plN, put_cs, set4_1, CPow]
        have hm0 := Int.emod_nonneg ((k * 8191 + cell) + 3) (show (2147483647 : Int) ≠ 0 by decide)
        have hm1 := Int.emod_lt_of_pos ((k * 8191 + cell) + 3) (show (0 : Int) < 2147483647 by decide)
        have fin : ∀ a' : Int, 0 ≤ a' → ∃ m, m < ys.length + 1 ∧ DrI g r r0 many (n + 1) m ⟨[.val (.box r), .val (.int many), .val (.int cell), .emp, .emp],
            ((g1.put r0 (.lst (ys.map D.int))).put r (.lst [.box r0, .int a, .int (n + 1), .int ((k * 8191 + cell + 3) % 2147483647)])).put r (.lst [.box r0, .int a', .int (n + 1), .int ((k * 8191 + cell + 3) % 2147483647)])⟩ := fun a' ha' =>
          ⟨ys.length, Nat.lt_succ_self _, _, ys, a', _, rfl, rfl, by simp [put_cs], by simp [put_cs, hne'], ha', hm0, hm1, fr_put (fr_put (fr_put0 f))⟩
        split
        · exact fin cell hcell
        · exact fin 0 (by decide)
      · exact ⟨_, _, x :: ys, a, k, rfl, rfl, e1, e2, ha, hk, hk2, f⟩
  · rintro fl ⟨sl, g1⟩ ⟨rfl, l, y, ys, a, k, rfl, rfl, e1, e2, ha, hk, hk2, f⟩
    have e1 : g1.cs r = some (.lst [.box r0, .int a, .int (n + 1), .int k]) := e1
    have e2 : g1.cs r0 = some (.lst (ys.map D.int)) := e2
    have f : Fr r r0 g g1 := f
    simp [ok_seqM, ok_ifM, ok_ixM, ok_hdN, vw_boxI, e1, e2, ok_ixPI, at4_1, ok_v1, ok_rd, ok_plN, set4_1, at4_3, at4_2]
    split
    · rename_i hpos
      refine ⟨by omega, ⟨by omega, ?_⟩, ⟨⟨ys, a / many, n + 1, k, by simp [put_cs], by simp [put_cs, hne', e2], Int.ediv_nonneg ha (by omega), by omega, by omega, hk, hk2⟩, hne, Nat.lt_of_lt_of_le l1 f.nx, Nat.lt_of_lt_of_le l2 f.nx⟩, fr_put f, Int.emod_nonneg _ (by omega), Int.emod_lt_of_pos _ (by omega)⟩
      have : many.natAbs < 2 ^ 63 := by omega
      have := log2_le this
      omega
    · have hn1 : n + 1 ≤ 100000000000001 := by omega
      have p1 : CMulW 7919 (n + 1) := cmulW_of (a := 13) (b := 47) (by decide) (by omega) (by decide)
      have p2 : CPow (k + 7919 * (n + 1) + 104729) 5 := ⟨by decide, by decide, by omega⟩
      have hm0 := Int.emod_nonneg ((k + 7919 * (n + 1) + 104729) ^ 5) (show (2147483629 : Int) ≠ 0 by decide)
      have hm1 := Int.emod_lt_of_pos ((k + 7919 * (n + 1) + 104729) ^ 5) (show (0 : Int) < 2147483629 by decide)
      generalize (k + 7919 * (n + 1) + 104729) ^ 5 % 2147483629 = mixed at hm0 hm1
      exact ⟨p1, p2, cmulW_of (a := 31) (b := 16) (by omega) (by decide) (by decide), cmulW_of (a := 15) (b := 47) (by decide) (by omega) (by decide), ⟨by decide, by decide, by omega⟩, by omega,
        ⟨⟨ys, a, n + 1, k, e1, e2, ha, by omega, by omega, hk, hk2⟩, hne, Nat.lt_of_lt_of_le l1 f.nx, Nat.lt_of_lt_of_le l2 f.nx⟩, f, Int.emod_nonneg _ (by omega), Int.emod_lt_of_pos _ (by omega)⟩
/-- a call of draw in a frame -/
theorem draw_call {sl : List Slot} {g : G} {r r0 : Nat} {c many : Int} {ms : M (List D)} {Q : D → Sg → Prop} (hc : c ≤ 100000000000000) (h1 : 1 ≤ many) (h2 : many ≤ 4611686018427387904)
    (s : St g r r0 c) (hQ : ∀ z g', 0 ≤ z → z < many → St g' r r0 (c + 1) → Fr r r0 g g' → Q (.int z) ⟨sl, g'⟩) : Ok (m_l_draw [.box r, .int many] ⟨[], g⟩) fun d S2 => Q d ⟨sl, S2.g⟩ :=
  (draw_ok s hc h1 h2).imp fun d S ⟨_, hs, hf, z, e, z1, z2⟩ => by subst e; exact hQ z S.g z1 z2 hs hf
end Lw
end

section
/-! K01d: the stream made; things mixed. -/
namespace Lw
open PySem L2 Mm
theorem stream_ok {g : G} {ns : List Int} : Ok (m_l_stream [.scr ns] ⟨[], g⟩) fun d S => S.sl = [] ∧ St S.g (g.nx + 1) g.nx 0 ∧ d = .box (g.nx + 1) ∧ S.g.nx = g.nx + 2 := by
  unfold m_l_stream
  rw [ok_runF]
  unfold b_l_stream
  simp [slots, ok_rd, scrF, add_nx]
  refine ⟨by decide, ⟨⟨ns, 0, 0, 17, by simp [add_cs, add_nx], by simp [add_cs, add_nx], by decide, by decide, by decide, by decide, by decide⟩, by omega, by simp [add_nx], by simp [add_nx]; omega⟩⟩
theorem vwD_sl {sl sl' : List Slot} {g : G} {d : D} : vwD ⟨sl, g⟩ d = vwD ⟨sl', g⟩ d := by cases d <;> rfl
theorem rngD_len {lo : Int} {n : Nat} : (rngD lo n).length = n := by simp [rngD]
theorem popAtZ {xs : List D} {z : Int} (h0 : 0 ≤ z) (h1 : z < xs.length) (hs : xs.length ≤ sizeLine) : ∃ d, xs[z.toNat]? = some d ∧ popAtF [.int z] xs = some (d, xs.eraseIdx z.toNat) := by
  have hl := line63
  have hlt : z.toNat < xs.length := by omega
  refine ⟨xs[z.toNat], List.getElem?_eq_getElem hlt, ?_⟩
  show (if -(2 ^ 63) ≤ z ∧ z < 2 ^ 63 then (match seqIndex? z xs.length with
    | some k => match xs[k]? with | some d => some (d, xs.eraseIdx k) | none => none
    | none => none) else none) = _
  rw [if_pos ⟨by omega, by omega⟩, seqIndex_of h0 h1]
  simp only [List.getElem?_eq_getElem hlt]
theorem perm_erase {α : Type} : ∀ {xs : List α} {i : Nat} {d : α}, xs[i]? = some d → (d :: xs.eraseIdx i).Perm xs
  | [], i, d, h => by simp at h
  | x :: xs, 0, d, h => by simp at h; subst h; exact .refl _
  | x :: xs, i + 1, d, h => by
    have ih := perm_erase (xs := xs) (i := i) (d := d) (by simpa using h)
    rw [List.eraseIdx_cons_succ]
    exact (List.Perm.swap x d _).trans (ih.cons x)
theorem Fr.keep {r r0 : Nat} {g g' : G} {q : Nat} {x : Cell} (f : Fr r r0 g g') (h : g.cs q = some x) (hq : q < g.nx) (h1 : q ≠ r) (h2 : q ≠ r0) : g'.cs q = some x := (f.cs q hq h1 h2).trans h
theorem mixed_ok {g : G} {r r0 : Nat} {c : Int} {T : D} {b : Bool} {xs : List D} (s : St g r r0 c) (hT : vwD ⟨[], g⟩ T = some (b, xs)) (hl : xs.length < sizeLine) (hc : c + xs.length ≤ 100000000000000) :
    Ok (m_l_mixed [.box r, T] ⟨[], g⟩) fun d S => S.sl = [] ∧ St S.g r r0 (c + xs.length) ∧ Fr r r0 g S.g ∧ ∃ (ys : List D) (q : Nat), ys.Perm xs ∧ d = .box q ∧ g.nx ≤ q ∧ q < S.g.nx ∧ S.g.cs q = some (.lst ys) := by
  have hsl := sizeLine_eq
  unfold m_l_mixed
  rw [ok_runF]
  unfold b_l_mixed
  have hT' : ∀ sl, vwD ⟨sl, g⟩ T = some (b, xs) := fun sl => by rw [vwD_sl (sl' := [])]; exact hT
  have hv : ∀ sl, vwH ⟨sl, g⟩ (.d T) = some (b, xs) := hT'
  simp [slots, ok_seqM, ok_hdN, hv, vw_slI, ok_rng1]
  refine ⟨by omega, ?_⟩
  refine Ok.imp (Q := fun f S => f = Fl.nx ∧ ∃ (found : List D) (x4 : Slot), found.Perm xs ∧ S.sl = [.val (.box r), .val T, .own (.lst []), .own (.lst found), x4] ∧ St S.g r r0 (c + xs.length) ∧ Fr r r0 g S.g) ?_ ?_
  · refine ok_forM (fun i S => ∃ (left found : List D) (x4 : Slot), left.length + i = xs.length ∧ found.length = i ∧ (found ++ left).Perm xs ∧ S.sl = [.val (.box r), .val T, .own (.lst left), .own (.lst found), x4] ∧ St S.g r r0 (c + i) ∧ Fr r r0 g S.g)
      (fun _ _ _ _ => trivial) ⟨xs, [], .emp, rfl, rfl, .refl _, rfl, by simpa using s, .refl g⟩ ?_ ?_
    · rintro i d ⟨sl, g1⟩ hd ⟨left, found, x4, h1, h2, h3, rfl, s1, f1⟩
      obtain ⟨hi, rfl⟩ := rngD_get hd
      have s1 : St g1 r r0 (c + i) := s1
      have f1 : Fr r r0 g g1 := f1
      refine ⟨_, asg_nm, ?_⟩
      simp [ok_mutM, ok_plN, ok_callM, ok_rd, ok_hdN, vw_slI, getP]
      refine (draw_ok (many := left.length) s1 (by omega) (by omega) (by omega)).imp ?_
      rintro _ ⟨_, g2⟩ ⟨_, s2, f2, z, rfl, z0, z1⟩
      have s2 : St g2 r r0 (c + i + 1) := s2
      have f2 : Fr r r0 g1 g2 := f2
      obtain ⟨d, hd, hp⟩ := popAtZ z0 z1 (by omega)
      have hp2 := perm_erase hd
      have hlen := hp2.length_eq
      simp only [List.length_cons] at hlen
      simp [hp, appF]
      rw [if_pos (by omega)]
      rw [onO_some]
      refine ⟨left.eraseIdx z.toNat, by omega, found ++ [d], by simp; omega, ?_, ⟨rfl, rfl⟩, ?_, f1.trans f2⟩
      · refine .trans ?_ h3
        rw [List.append_assoc]
        exact List.Perm.append_left _ hp2
      · have e : c + ((i : Int) + 1) = c + i + 1 := by omega
        rw [e]; exact s2
    · rintro ⟨sl, g1⟩ ⟨left, found, x4, h1, h2, h3, rfl, s1, f1⟩
      have h1 : left.length + (rngD 0 xs.length).length = xs.length := h1
      have s9 : St g1 r r0 (c + ((rngD 0 xs.length).length : Nat)) := s1
      rw [rngD_len] at h1 s9
      have e : left = [] := List.length_eq_zero_iff.mp (by omega)
      subst e
      rw [List.append_nil] at h3
      exact ⟨rfl, found, x4, h3, rfl, s9, f1⟩
  · rintro fl ⟨sl, g1⟩ ⟨rfl, found, x4, hp, rfl, s1, f1⟩
    have s1 : St g1 r r0 (c + xs.length) := s1
    have f1 : Fr r r0 g g1 := f1
    simp [ok_rdB, add_nx]
    obtain ⟨⟨xs', a, n, k, e1, e2, h⟩, hne, l1, l2⟩ := s1
    refine ⟨⟨⟨xs', a, n, k, by rw [add_cs, if_neg (by omega)]; exact e1, by rw [add_cs, if_neg (by omega)]; exact e2, h⟩, hne, by rw [add_nx]; omega, by rw [add_nx]; omega⟩, ⟨by rw [add_nx]; have := f1.nx; omega, fun q h1 h2 h3 => by rw [add_cs, if_neg (by have := f1.nx; omega)]; exact f1.cs q h1 h2 h3⟩, found, hp, f1.nx, by rw [add_cs, if_pos rfl]⟩
end Lw
end

section
/-! K01e: drawn rows; rows once; rows shifted. -/
namespace Lw
open PySem L2 Mm

/-- a row of gates below n -/
structure Rw (n : Int) (row : List Int) : Prop where
  ne : row ≠ []
  nd : row.Nodup
  bd : ∀ z ∈ row, 0 ≤ z ∧ z < n
/-- unlike rows -/
structure Rws (n : Int) (rs : List (List Int)) : Prop where
  nd : rs.Nodup
  rw : ∀ row ∈ rs, Rw n row
theorem pig : ∀ (n : Nat) (xs : List Int), xs.Nodup → (∀ z ∈ xs, 0 ≤ z ∧ z < (n : Int)) → xs.length ≤ n
  | 0, [], _, _ => Nat.le_refl _
  | 0, x :: xs, _, h => by have := h x (by simp); omega
  | n + 1, xs, hn, h => by
    by_cases m : (n : Int) ∈ xs
    · have ih := pig n (xs.erase n) (hn.erase _) fun z hz => by
        rw [hn.mem_erase_iff] at hz
        have := h z hz.2
        have := hz.1
        omega
      rw [List.length_erase_of_mem m] at ih
      omega
    · have ih := pig n xs hn fun z hz => by
        have := h z hz
        have : z ≠ n := fun e => m (e ▸ hz)
        omega
      omega
theorem Rw.len {n : Int} {row : List Int} (h : Rw n row) : (row.length : Int) ≤ n := by
  have h0 : 0 ≤ n := by
    obtain ⟨z, zs, e⟩ := List.exists_cons_of_ne_nil h.ne
    have := h.bd z (by rw [e]; simp)
    omega
  have := pig n.toNat row h.nd fun z hz => by have := h.bd z hz; omega
  omega
theorem Rw.mono {n m : Int} {row : List Int} (h : Rw n row) (l : n ≤ m) : Rw m row := ⟨h.ne, h.nd, fun z hz => by have := h.bd z hz; omega⟩
/-- 0 .. n-1 -/
def rngI (n : Nat) : List Int := (List.range n).map Int.ofNat
theorem rngI_mem {n : Nat} {z : Int} : z ∈ rngI n ↔ 0 ≤ z ∧ z < n := by
  simp only [rngI, List.mem_map, List.mem_range]
  constructor
  · rintro ⟨k, h, rfl⟩
    exact ⟨by simp, by simpa using h⟩
  · rintro ⟨h1, h2⟩
    exact ⟨z.toNat, by omega, by simp; omega⟩
theorem rngI_nd {n : Nat} : (rngI n).Nodup := by
  unfold rngI
  refine List.Pairwise.map _ ?_ List.nodup_range
  intro a b h e
  exact h (Int.ofNat.inj e)
theorem rngI_len {n : Nat} : (rngI n).length = n := by simp [rngI]
theorem rngD_I {n : Nat} : rngD 0 n = (rngI n).map D.int := by
  unfold rngD rngI
  rw [List.map_map]
  refine List.map_congr_left fun k _ => ?_
  simp
/-- a permutation of ints is one -/
theorem perm_map {α β : Type} {f : α → β} : ∀ {ys : List β} {xs : List α}, ys.Perm (xs.map f) → ∃ zs : List α, ys = zs.map f ∧ zs.Perm xs := by
  intro ys xs h
  generalize e : xs.map f = zs at h
  induction h generalizing xs with
  | nil => exact ⟨[], rfl, by cases xs with | nil => exact .nil | cons => simp at e⟩
  | cons x h ih =>
    rename_i l1 l2
    cases xs with
    | nil => simp at e
    | cons y ys =>
      simp at e
      obtain ⟨zs, h1, h2⟩ := ih e.2
      exact ⟨y :: zs, by simp [h1, e.1], h2.cons y⟩
  | swap x y l =>
    cases xs with
    | nil => simp at e
    | cons a xs =>
      cases xs with
      | nil => simp at e
      | cons b xs =>
        simp at e
        exact ⟨b :: a :: xs, by simp [e.1, e.2.1, e.2.2], List.Perm.swap a b xs⟩
  | trans h1 h2 ih1 ih2 =>
    obtain ⟨zs, k1, k2⟩ := ih2 e
    obtain ⟨ws, k3, k4⟩ := ih1 k1.symm
    exact ⟨ws, k3, k4.trans k2⟩
theorem St.del {g : G} {r r0 q : Nat} {c : Int} (s : St g r r0 c) (h1 : q ≠ r) (h2 : q ≠ r0) : St (g.del q) r r0 c := by
  obtain ⟨⟨xs, a, n, k, e1, e2, h⟩, hne, l1, l2⟩ := s
  exact ⟨⟨xs, a, n, k, by rw [del_cs', if_neg (fun e => h1 e.symm)]; exact e1, by rw [del_cs', if_neg (fun e => h2 e.symm)]; exact e2, h⟩, hne, l1, l2⟩
theorem Fr.del {r r0 q : Nat} {g g' : G} (f : Fr r r0 g g') (h : g.nx ≤ q) : Fr r r0 g (g'.del q) := ⟨f.nx, fun p h1 h2 h3 => by rw [del_cs', if_neg (by omega)]; exact f.cs p h1 h2 h3⟩
theorem St.add {g : G} {r r0 : Nat} {c : Int} {x : Cell} (s : St g r r0 c) : St (g.add x) r r0 c := by
  obtain ⟨⟨xs, a, n, k, e1, e2, h⟩, hne, l1, l2⟩ := s
  exact ⟨⟨xs, a, n, k, by rw [add_cs, if_neg (by omega)]; exact e1, by rw [add_cs, if_neg (by omega)]; exact e2, h⟩, hne, by rw [add_nx]; omega, by rw [add_nx]; omega⟩
theorem Fr.add {r r0 : Nat} {g g' : G} {x : Cell} (f : Fr r r0 g g') : Fr r r0 g (g'.add x) := ⟨by rw [add_nx]; have := f.nx; omega, fun p h1 h2 h3 => by rw [add_cs, if_neg (by have := f.nx; omega)]; exact f.cs p h1 h2 h3⟩
theorem St.put {g : G} {r r0 q : Nat} {c : Int} {x : Cell} (s : St g r r0 c) (h1 : q ≠ r) (h2 : q ≠ r0) : St (g.put q x) r r0 c := by
  obtain ⟨⟨xs, a, n, k, e1, e2, h⟩, hne, l1, l2⟩ := s
  exact ⟨⟨xs, a, n, k, by rw [put_cs, if_neg (fun e => h1 e.symm)]; exact e1, by rw [put_cs, if_neg (fun e => h2 e.symm)]; exact e2, h⟩, hne, l1, l2⟩
theorem Fr.put {r r0 q : Nat} {g g' : G} {x : Cell} (f : Fr r r0 g g') (h : g.nx ≤ q) : Fr r r0 g (g'.put q x) := ⟨f.nx, fun p h1 h2 h3 => by rw [put_cs, if_neg (by omega)]; exact f.cs p h1 h2 h3⟩
theorem ok_rngC1 {Q : Cell → Sg → Prop} {S : Sg} {j : Int} (h : 0 ≤ j) (h2 : j ≤ 16777216) (q : Q (.lst (rngD 0 j.toNat)) S) : Ok (rngC1 (.int j) S) Q := by
  show Ok ((if 0 ≤ (0 : Int) ∧ (0 : Int) ≤ 16777216 ∧ 0 ≤ j ∧ j ≤ 16777216 then ret (.lst (rngD 0 (j - 0).toNat)) else nope : M Cell) S) Q
  rw [if_pos ⟨by decide, by decide, h, h2⟩, Int.sub_zero]
  exact ok_ret.mpr q
/-- numbers mixed, frozen -/
theorem mixI {sl : List Slot} {g : G} {r r0 : Nat} {c : Int} {xs : List Int} {i : Nat} {mt : M D} {Q : D → Sg → Prop} (hi : sl[i]? = some (.val (.box r))) (ht : ∀ P : D → Sg → Prop, P (dInts xs) ⟨sl, g⟩ → Ok (mt ⟨sl, g⟩) P)
    (s : St g r r0 c) (hl : xs.length ≤ 100000) (hc : c + xs.length ≤ 100000000000000)
    (q : ∀ ys g', ys.Perm xs → St g' r r0 (c + xs.length) → Fr r r0 g g' → Q (dInts ys) ⟨sl, g'⟩) :
    Ok (bd (callM m_l_mixed (consM (rd i) (consM mt nilM))) frzD ⟨sl, g⟩) Q := by
  have hsl := sizeLine_eq
  have h1 : (xs.map D.int).length < sizeLine := by rw [List.length_map]; omega
  have h2 : c + (xs.map D.int).length ≤ 100000000000000 := by rw [List.length_map]; exact hc
  have k : Ok (m_l_mixed [.box r, dInts xs] ⟨[], g⟩) (fun d S2 => Ok (frzD d ⟨sl, S2.g⟩) Q) := by
    refine (mixed_ok s (vwD_lst (xs := xs.map D.int)) h1 h2).imp ?_
    rintro d ⟨sl2, g2⟩ ⟨_, s2, f2, ys, p, hp, rfl, p1, p2, hq⟩
    rw [List.length_map] at s2
    obtain ⟨zs, rfl, hz⟩ := perm_map hp
    rw [ok_frzD hq]
    exact q zs _ hz (s2.del (fun e => by have := s.l1; omega) (fun e => by have := s.l2; omega)) (f2.del p1)
  rw [ok_bd, ok_callM, ok_consM]
  refine ok_rdv hi ?_
  rw [ok_consM]
  refine ht _ ?_
  rw [ok_nilM]
  exact k
theorem mixR {sl : List Slot} {g : G} {r r0 : Nat} {c n : Int} {i j : Nat} {Q : D → Sg → Prop} (hi : sl[i]? = some (.val (.box r))) (hj : sl[j]? = some (.val (.int n)))
    (s : St g r r0 c) (hn : 0 ≤ n) (hl : n ≤ 100000) (hc : c + n ≤ 100000000000000)
    (q : ∀ ys g', ys.Perm (rngI n.toNat) → St g' r r0 (c + n) → Fr r r0 g g' → Q (dInts ys) ⟨sl, g'⟩) :
    Ok (bd (callM m_l_mixed (consM (rd i) (consM (bd (bd (rd j) rngC1) frzC) nilM))) frzD ⟨sl, g⟩) Q := by
  refine mixI (xs := rngI n.toNat) hi ?_ s (by rw [rngI_len]; omega) (by rw [rngI_len]; omega) (fun ys g' h1 h2 h3 => q ys g' h1 ?_ h3)
  · intro P hP
    rw [ok_bd, ok_bd]
    refine ok_rdv hj (ok_rngC1 hn (by omega) ?_)
    rw [ok_frzC, rngD_I]
    exact hP
  · rw [rngI_len] at h2
    have e : (n.toNat : Int) = n := by omega
    rwa [e] at h2
/-- a drawn row -/
theorem rowM {sl : List Slot} {g : G} {r r0 : Nat} {c n : Int} {i j : Nat} {Q : D → Sg → Prop} (hi : sl[i]? = some (.val (.box r))) (hj : sl[j]? = some (.val (.int n)))
    (s : St g r r0 c) (hn : 1 ≤ n) (hl : n ≤ 100000) (hc : c + n + 1 ≤ 100000000000000)
    (q : ∀ row g', Rw n row → St g' r r0 (c + n + 1) → Fr r r0 g g' → Q (dInts row) ⟨sl, g'⟩) :
    Ok (slM (hdE (bd (callM m_l_mixed (consM (rd i) (consM (bd (bd (rd j) rngC1) frzC) nilM))) frzD)) (ret none) (bd (bop addI (ret (.int 1)) (callM m_l_draw (consM (rd i) (consM (rd j) nilM)))) oint) ⟨sl, g⟩) Q := by
  rw [ok_slM, ok_hdE]
  refine mixR hi hj s (by omega) hl (by omega) ?_
  intro ys g' hp s1 f1
  simp only [ok_ret, ok_bd, ok_bop, ok_callM, ok_consM]
  refine ok_rdv hi (ok_rdv hj ?_)
  rw [ok_nilM]
  refine (draw_ok s1 (by omega) hn (by omega)).imp ?_
  rintro _ ⟨_, g2⟩ ⟨_, s2, f2, z, rfl, z0, z1⟩
  have s2 : St g2 r r0 (c + n + 1) := s2
  have f2 : Fr r r0 g' g2 := f2
  simp only [ok_addI, ok_oint, dInts, vw_lst, onO_some, if_true]
  rw [cut_to (by omega), ← List.map_take]
  have hlen : ys.length = n.toNat := by rw [hp.length_eq, rngI_len]
  refine q _ g2 ⟨?_, ?_, ?_⟩ s2 (f1.trans f2)
  · intro e
    have := congrArg List.length e
    simp at this
    rcases this with h | h
    · omega
    · subst h; simp at hlen; omega
  · exact (hp.nodup_iff.mpr rngI_nd).sublist (List.take_sublist _ _)
  · intro w hw
    have := rngI_mem.mp (hp.mem_iff.mp (List.mem_of_mem_take hw))
    omega
end Lw
end

section
/-! K01f: rows; each once; shifted; lack. -/
namespace Lw
open PySem L2 Mm
theorem nodup_snoc {α : Type} {xs : List α} {x : α} (h : xs.Nodup) (n : x ∉ xs) : (xs ++ [x]).Nodup := by
  rw [List.nodup_append]
  exact ⟨h, by simp, fun a ha b hb e => by simp at hb; subst hb; subst e; exact n ha⟩
theorem Rws.snoc {n : Int} {rs : List (List Int)} {row : List Int} (h : Rws n rs) (k : Rw n row) (m : row ∉ rs) : Rws n (rs ++ [row]) :=
  ⟨nodup_snoc h.nd m, fun r hr => by
    rcases List.mem_append.mp hr with h1 | h1
    · exact h.rw r h1
    · simp at h1; subst h1; exact k⟩
theorem Rws.nil {n : Int} : Rws n [] := ⟨by simp, fun _ h => by simp at h⟩
theorem map_snoc {α β : Type} {f : α → β} {xs : List α} {x : α} : xs.map f ++ [f x] = (xs ++ [x]).map f := by simp
def RowsI (g : G) (r r0 : Nat) (c n many : Int) (i : Nat) (S : Sg) : Prop := ∃ (rs : List (List Int)) (x4 x5 : Slot), Rws n rs ∧ (0 < i → rs ≠ []) ∧ rs.length ≤ i ∧ S.sl = [.val (.box r), .val (.int n), .val (.int many), .own (.lst (rs.map dInts)), x4, x5] ∧ St S.g r r0 (c + i * 1001) ∧ Fr r r0 g S.g
theorem rows_ok {g : G} {r r0 : Nat} {c n many : Int} (s : St g r r0 c) (hn : 1 ≤ n) (hn2 : n ≤ 1000) (hm : 1 ≤ many) (hm2 : many ≤ 1000) (hc : c + many * 1001 ≤ 100000000000000) :
    Ok (m_l_rows [.box r, .int n, .int many] ⟨[], g⟩) fun d S => St S.g r r0 (c + many * 1001) ∧ Fr r r0 g S.g ∧ ∃ rs, d = dRows rs ∧ Rws n rs ∧ rs ≠ [] ∧ (rs.length : Int) ≤ many := by
  have hsl := sizeLine_eq
  unfold m_l_rows
  rw [ok_runF]
  unfold b_l_rows
  simp [slots, ok_seqM, ok_rd, ok_rng1, List.replicate]
  refine ⟨by omega, ?_⟩
  refine Ok.imp (Q := fun f S => f = Fl.nx ∧ RowsI g r r0 c n many many.toNat S) ?_ ?_
  · refine ok_forM (RowsI g r r0 c n many) (fun _ _ _ _ => trivial) ⟨[], .emp, .emp, .nil, fun h => absurd h (by omega), by simp, rfl, by simpa using s, .refl g⟩ ?_ ?_
    · rintro i d ⟨sl, g1⟩ hd ⟨rs, x4, x5, h1, h2, h3, rfl, s1, f1⟩
      obtain ⟨hi, rfl⟩ := rngD_get hd
      have s1 : St g1 r r0 (c + i * 1001) := s1
      have f1 : Fr r r0 g g1 := f1
      refine ⟨_, asg_nm, ?_⟩
      simp only [ok_seqM, ok_setM]
      refine rowM (i := 0) (j := 1) rfl rfl s1 hn (by omega) (by omega) ?_
      intro row g2 hr s2 f2
      simp [ok_ifM, ok_inM, ok_rd, ok_hdN, vw_slI, ok_mutM, ok_plN, getP, appF]
      have s3 : St g2 r r0 (c + ((i + 1 : Nat) : Int) * 1001) := s2.mono (by omega)
      split
      · rename_i hin
        exact ⟨rs, _, _, h1, by intro _ e; subst e; simp at hin, by omega, rfl, s3, f1.trans f2⟩
      · rename_i hin
        rw [if_pos (by omega), onO_some]
        exact ⟨rs ++ [row], _, _, h1.snoc hr hin, by simp, by simp; omega, by rw [← map_snoc], s3, f1.trans f2⟩
    · intro S h
      have h : RowsI g r r0 c n many (rngD 0 many.toNat).length S := h
      rw [rngD_len] at h
      exact ⟨rfl, h⟩
  · rintro fl ⟨sl, g1⟩ ⟨rfl, rs, x4, x5, h1, h2, h3, rfl, s1, f1⟩
    have e : ((many.toNat : Nat) : Int) = many := by omega
    rw [e] at s1
    simp [ok_rd]
    exact ⟨s1, f1, rs, rfl, h1, h2 (by omega), by omega⟩
def OnceI (g : G) (rs : List (List Int)) (i : Nat) (S : Sg) : Prop := ∃ (ys : List (List Int)) (x2 : Slot), ys.Nodup ∧ (∀ y ∈ ys, y ∈ rs) ∧ ys.length ≤ i ∧ S.sl = [.val (dRows rs), .own (.lst (ys.map dInts)), x2] ∧ S.g = g
theorem rows_get {rs : List (List Int)} {i : Nat} {d : D} (h : (rs.map dInts)[i]? = some d) : ∃ row, rs[i]? = some row ∧ d = dInts row ∧ row ∈ rs ∧ i < rs.length := by
  rw [List.getElem?_map] at h
  cases hr : rs[i]? with
  | none => rw [hr] at h; simp at h
  | some row =>
    rw [hr] at h
    simp at h
    exact ⟨row, rfl, h.symm, List.mem_of_getElem? hr, (List.getElem?_eq_some_iff.mp hr).1⟩
theorem once_ok {g : G} {rs : List (List Int)} (hl : rs.length ≤ 16000000) : Ok (m_l_each_once [dRows rs] ⟨[], g⟩) fun d S => S.g = g ∧ ∃ ys, d = dRows ys ∧ ys.Nodup ∧ (∀ y ∈ ys, y ∈ rs) ∧ ys.length ≤ rs.length := by
  have hsl := sizeLine_eq
  unfold m_l_each_once
  rw [ok_runF]
  unfold b_l_each_once
  simp [slots, ok_seqM, ok_rd, List.replicate]
  refine Ok.imp (Q := fun f S => f = Fl.nx ∧ OnceI g rs rs.length S) ?_ ?_
  · refine ok_forM (OnceI g rs) (fun _ _ _ _ => trivial) ⟨[], .emp, by simp, by simp, by simp, rfl, rfl⟩ ?_ ?_
    · rintro i d ⟨sl, g1⟩ hd ⟨ys, x2, h1, h2, h3, rfl, rfl⟩
      obtain ⟨row, hr, rfl, hm, hi⟩ := rows_get hd
      refine ⟨_, asg_nm, ?_⟩
      simp [ok_extM, ok_plN, getP, ok_ifM, ok_inM, ok_rd, ok_hdN, vw_slI]
      split
      · exact ⟨by omega, ys, _, h1, h2, by omega, rfl, rfl⟩
      · rename_i hin
        exact ⟨by omega, by omega, ys ++ [row], _, nodup_snoc h1 hin, by intro y hy; rcases List.mem_append.mp hy with h | h; exact h2 y h; simp at h; subst h; exact hm, by simp; omega, by rw [← map_snoc], rfl⟩
    · intro S h
      have h : OnceI g rs (rs.map dInts).length S := h
      rw [List.length_map] at h
      exact ⟨rfl, h⟩
  · rintro fl ⟨sl, g1⟩ ⟨rfl, ys, x2, h1, h2, h3, rfl, rfl⟩
    simp [ok_rd]
    exact ⟨ys, rfl, h1, h2, h3⟩
end Lw
end

section
/-! K01g: shifted; lack. -/
namespace Lw
open PySem L2 Mm
theorem map_ints {ns : List Int} {f : D → D} {h : Int → Int} (e : ∀ z, f (.int z) = .int (h z)) : (ns.map D.int).map f = (ns.map h).map D.int := by
  rw [List.map_map, List.map_map]
  exact List.map_congr_left fun z _ => e z
theorem map_rows {rs : List (List Int)} {f : D → D} {h : List Int → List Int} (e : ∀ row ∈ rs, f (dInts row) = dInts (h row)) : (rs.map dInts).map f = (rs.map h).map dInts := by
  rw [List.map_map, List.map_map]
  exact List.map_congr_left fun z hz => e z hz
/-- what stands for a row -/
def upR (h : List Int → List Int) : D → D
  | .lst xs => match intsOf xs with | some ns => dInts (h ns) | none => .non
  | _ => .non
def upI (h : Int → Int) : D → D
  | .int i => .int (h i)
  | _ => .non
@[simp] theorem upR_ints {h : List Int → List Int} {ns : List Int} : upR h (dInts ns) = dInts (h ns) := by simp [upR, dInts, intsOf_map]
@[simp] theorem upI_int {h : Int → Int} {i : Int} : upI h (.int i) = .int (h i) := rfl
theorem mem_rows {rs : List (List Int)} {d : D} (h : d ∈ rs.map dInts) : ∃ row ∈ rs, d = dInts row := by
  obtain ⟨row, h1, h2⟩ := List.mem_map.mp h
  exact ⟨row, h1, h2.symm⟩
theorem mem_intsD {ns : List Int} {d : D} (h : d ∈ ns.map D.int) : ∃ z ∈ ns, d = .int z := by
  obtain ⟨row, h1, h2⟩ := List.mem_map.mp h
  exact ⟨row, h1, h2.symm⟩
/-- the bounds of what is handled -/
def Small (rs : List (List Int)) : Prop := rs.length ≤ 16000000 ∧ ∀ row ∈ rs, row.length ≤ 10000
theorem shifted_ok {g : G} {rs : List (List Int)} {far : Int} (hl : Small rs) : Ok (m_l_shifted [dRows rs, .int far] ⟨[], g⟩) fun d S => S.g = g ∧ d = dRows (rs.map fun row => row.map (· + far)) := by
  have hsl := sizeLine_eq
  unfold m_l_shifted
  rw [ok_runF]
  unfold b_l_shifted
  have e : slots 4 [dRows rs, .int far] = [.val (dRows rs), .val (.int far), .emp, .emp] := rfl
  rw [e, ok_retM, ok_bd]
  refine ok_lcMap (f := upR fun row => row.map (· + far)) (by simp) rfl (src_items rfl vwD_lst) vwD_lst (by rw [List.length_map]; have := hl.1; omega) ?_ ?_
  · intro d hd P hP
    obtain ⟨row, hm, rfl⟩ := mem_rows hd
    rw [upR_ints] at hP
    rw [ok_bd]
    refine ok_lcMap (f := upI (· + far)) (by simp) rfl (src_items rfl vwD_lst) vwD_lst (by rw [List.length_map]; have := hl.2 row hm; omega) ?_ ?_
    · intro d hd P hP
      obtain ⟨z, hz, rfl⟩ := mem_intsD hd
      rw [upI_int] at hP
      simp [ok_rd]
      exact hP
    · rw [ok_frzC, map_ints (h := (· + far)) fun z => rfl]
      exact hP
  · rw [ok_frzC, map_rows (h := fun row => row.map (· + far)) fun row _ => upR_ints]
    exact ⟨rfl, rfl⟩
end Lw
end

section
/-! K01i: lack ends. -/
namespace Lw
open PySem L2 Mm
theorem enum_get {rs : List (List Int)} {i : Nat} {d : D} (h : (enFrom 0 (rs.map dInts))[i]? = some d) : ∃ row, rs[i]? = some row ∧ d = .tup [.int (i : Nat), dInts row] ∧ row ∈ rs ∧ i < rs.length := by
  rw [enFrom_get, List.getElem?_map] at h
  cases hr : rs[i]? with
  | none => rw [hr] at h; simp at h
  | some row =>
    rw [hr] at h
    simp at h
    exact ⟨row, rfl, h.symm, List.mem_of_getElem? hr, (List.getElem?_eq_some_iff.mp hr).1⟩
def upB (h : Int → Bool) : D → D
  | .int i => .bl (h i)
  | _ => .non
def upBR (h : List Int → Bool) : D → D
  | .lst xs => match intsOf xs with | some ns => .bl (h ns) | none => .non
  | _ => .non
@[simp] theorem upBR_ints {h : List Int → Bool} {ns : List Int} : upBR h (dInts ns) = .bl (h ns) := by simp [upBR, dInts, intsOf_map]
theorem map_bls {ns : List Int} {f : D → D} {h : Int → Bool} (e : ∀ z, f (.int z) = .bl (h z)) : (ns.map D.int).map f = (ns.map h).map D.bl := by
  rw [List.map_map, List.map_map]
  exact List.map_congr_left fun z _ => e z
theorem map_blsR {rs : List (List Int)} {f : D → D} {h : List Int → Bool} (e : ∀ row, f (dInts row) = .bl (h row)) : (rs.map dInts).map f = (rs.map h).map D.bl := by
  rw [List.map_map, List.map_map]
  exact List.map_congr_left fun z _ => e z
theorem findIdx_in {ns : List Int} {z : Int} (h : z ∈ ns) : ∃ k, ns.findIdx? (fun w => decide (w = z)) = some k ∧ k < ns.length ∧ ns[k]? = some z := by
  cases e : ns.findIdx? (fun w => decide (w = z)) with
  | none =>
    rw [List.findIdx?_eq_none_iff] at e
    have := e z h
    simp at this
  | some k =>
    rw [List.findIdx?_eq_some_iff_getElem] at e
    obtain ⟨h1, h2, _⟩ := e
    refine ⟨k, rfl, h1, ?_⟩
    rw [List.getElem?_eq_getElem h1]
    simpa using h2
def LkI (rs : List (List Int)) (g : G) (_ : Nat) (S : Sg) : Prop := S.g = g ∧ ∃ x1 x2 x3 x4 x5 x6 x7, S.sl = [.val (dRows rs), x1, x2, x3, x4, x5, x6, x7, .emp, .emp]
def LkI2 (rs : List (List Int)) (g : G) (one : Int) (row : List Int) (_ : Nat) (S : Sg) : Prop := S.g = g ∧ ∃ x3 x4 x5 x6 x7, S.sl = [.val (dRows rs), .val (.int one), .val (dInts row), x3, x4, x5, x6, x7, .emp, .emp]
def LkI3 (rs : List (List Int)) (g : G) (one : Int) (row : List Int) (gate : Int) (k : Nat) (_ : Nat) (S : Sg) : Prop := S.g = g ∧ ∃ x5 x6 x7, S.sl = [.val (dRows rs), .val (.int one), .val (dInts row), .val (.int gate), .val (dInts (row.take (k + 1))), x5, x6, x7, .emp, .emp]
def LkQ (g : G) (d : D) (S : Sg) : Prop := S.g = g ∧ (d = .non ∨ ∃ ds, d = .tup ds)
def LkF (rs : List (List Int)) (g : G) (f : Fl) (S : Sg) : Prop := match f with | .nx => LkI rs g 0 S | .rt d => LkQ g d S | _ => False
def LkF2 (rs : List (List Int)) (g : G) (one : Int) (row : List Int) (f : Fl) (S : Sg) : Prop := match f with | .nx => LkI2 rs g one row 0 S | .rt d => LkQ g d S | _ => False
def LkF3 (rs : List (List Int)) (g : G) (one : Int) (row : List Int) (gate : Int) (k : Nat) (f : Fl) (S : Sg) : Prop := match f with | .nx => LkI3 rs g one row gate k 0 S | .rt d => LkQ g d S | _ => False
theorem vw_sv {sl : List Slot} {g : G} {n : Nat} {d : D} {v : Vw} (h : sl[n]? = some (.val d)) (e : vwD ⟨sl, g⟩ d = some v) : vwH ⟨sl, g⟩ (.sl n) = some v := by
  unfold vwH; simp only [h]; exact e
theorem lack_ok {g : G} {rs : List (List Int)} (hl : Small rs) : Ok (m_l_lack [dRows rs] ⟨[], g⟩) (LkQ g) := by
  have hsl := sizeLine_eq
  unfold m_l_lack
  rw [ok_runF]
  unfold b_l_lack
  have e : slots 10 [dRows rs] = [.val (dRows rs), .emp, .emp, .emp, .emp, .emp, .emp, .emp, .emp, .emp] := rfl
  rw [e]
  simp only [ok_seqM, ok_bd, ok_rd, List.getElem?_cons_zero, ok_enumS, vwD_dR, onO_some]
  refine Ok.imp (Q := LkF rs g) ?_ ?_
  · refine ok_forM (LkI rs g) (fun _ _ _ _ => trivial) ⟨rfl, _, _, _, _, _, _, _, rfl⟩ ?_ (fun S h => h)
    rintro i d ⟨sl, g1⟩ hd ⟨rfl, x1, x2, x3, x4, x5, x6, x7, rfl⟩
    obtain ⟨row, hr, rfl, hm, hi⟩ := enum_get hd
    have hrow := hl.2 row hm
    refine ⟨⟨[.val (dRows rs), .val (.int i), .val (dInts row), x3, x4, x5, x6, x7, .emp, .emp], g1⟩, by simp [asg, asgs], ?_⟩
    simp [ok_hdN, ok_sortI]
    refine Ok.imp (Q := LkF2 rs g1 i row) ?_ ?_
    · refine ok_forM (LkI2 rs g1 i row) (fun _ _ _ _ => trivial) ⟨rfl, _, _, _, _, _, rfl⟩ ?_ (fun S h => h)
      rintro j d ⟨sl, g2⟩ hd ⟨rfl, x3, x4, x5, x6, x7, rfl⟩
      have hd : ((sortI row).map D.int)[j]? = some d := hd
      obtain ⟨gate, hg, rfl⟩ := mem_intsD (List.mem_of_getElem? hd)
      have hg := (sortI_perm row).mem_iff.mp hg
      obtain ⟨k, hk, hk1, hk2⟩ := findIdx_in hg
      refine ⟨_, asg_nm, ?_⟩
      have hk0 : (0 : Int) ≤ k + 1 := by omega
      simp [ok_seqM, ok_slM, ok_hdN, ok_indexM, vw_slI, ok_rd, ok_indexI hk, cutI_to hk0, fold_ints]
      refine Ok.imp (Q := LkF3 rs g2 i row gate k) ?_ ?_
      · refine ok_forM (LkI3 rs g2 i row gate k) (fun _ _ _ _ => trivial) ⟨rfl, x5, x6, x7, by simp [dInts]⟩ ?_ (fun S h => h)
        rintro l d ⟨sl, g3⟩ hd ⟨rfl, x5, x6, x7, rfl⟩
        obtain ⟨late, hr2, rfl, hm2, hi2⟩ := enum_get hd
        have hlate := hl.2 late hm2
        refine ⟨⟨[.val (dRows rs), .val (.int i), .val (dInts row), .val (.int gate), .val (dInts (row.take (k + 1))), .val (.int l), .val (dInts late), x7, .emp, .emp], g3⟩, by simp [asg, asgs], ?_⟩
        simp [ok_ifM, ok_andM, ok_rd, ok_inM, ok_hdN, vw_slI]
        split
        · exact ⟨rfl, _, _, _, rfl⟩
        · split
          · rename_i h1 h2
            obtain ⟨k2, hk2, hk3, _⟩ := findIdx_in h2
            have hk02 : (0 : Int) ≤ k2 := by omega
            simp [ok_seqM, ok_slM, ok_catC, ok_hdN, ok_indexM, vw_slI, ok_rd, ok_indexI hk2, cutI_from hk02]
            refine ⟨by omega, ?_⟩
            rw [← List.map_take, ← List.map_drop, fold_app, fold_ints]
            generalize hlot : List.take (k + 1) row ++ List.drop k2 late = lot
            rw [ok_ifM, ok_notM, ok_bd, ok_h1, ok_hdE, ok_bd]
            refine ok_lcMap (f := upBR fun some => some.all fun z => decide (z ∈ lot)) (by simp) rfl (src_items rfl vwD_dR) vwD_dR (by rw [List.length_map]; have := hl.1; omega) ?_ ?_
            · intro d hd P hP
              obtain ⟨some', hm, rfl⟩ := mem_rows hd
              rw [upBR_ints] at hP
              rw [ok_h1, ok_hdE, ok_bd]
              refine ok_lcMap (f := upB fun z => decide (z ∈ lot)) (by simp) rfl (src_items rfl vwD_dI) vwD_dI (by rw [List.length_map]; have := hl.2 some' hm; omega) ?_ ?_
              · intro d hd P hP
                obtain ⟨z, hz, rfl⟩ := mem_intsD hd
                simp [ok_inM, ok_rd, ok_hdN, vw_slI]
                exact hP
              · rw [ok_frzC, map_bls (h := fun z => decide (z ∈ lot)) fun z => rfl, vw_lst, onO_some, ok_allF, List.all_map]
                exact hP
            · rw [ok_frzC, map_blsR (h := fun some => some.all fun z => decide (z ∈ lot)) fun _ => upBR_ints, vw_lst, onO_some, ok_anyF, ok_asB]
              generalize List.any _ _ = bb
              cases bb
              · simp [ok_rd]
                exact ⟨by omega, rfl, .inr ⟨_, rfl⟩⟩
              · simp
                exact ⟨rfl, _, _, _, rfl⟩
          · exact ⟨rfl, _, _, _, rfl⟩
      · rintro f ⟨sl, g4⟩ h
        cases f with
        | nx => obtain ⟨e1, x5, x6, x7, e2⟩ := h; exact ⟨e1, _, _, _, _, _, e2⟩
        | rt d => exact h
        | bk => exact h.elim
        | ct => exact h.elim
    · rintro f ⟨sl, g4⟩ h
      cases f with
      | nx => obtain ⟨e1, x3, x4, x5, x6, x7, e2⟩ := h; exact ⟨e1, _, _, _, _, _, _, _, e2⟩
      | rt d => exact h
      | bk => exact h.elim
      | ct => exact h.elim
  · rintro f ⟨sl, g4⟩ h
    cases f with
    | nx => obtain ⟨e1, x3, x4, x5, x6, x7, e2⟩ := h; simp; exact ⟨e1, .inl rfl⟩
    | rt d => exact h
    | bk => exact h.elim
    | ct => exact h.elim
end Lw
end

section
/-! K01j: leaped. -/
namespace Lw
open PySem L2 Mm
theorem mixK {sl : List Slot} {g : G} {r r0 : Nat} {c : Int} {xs : List Int} {Q : D → Sg → Prop}
    (s : St g r r0 c) (hl : xs.length ≤ 100000) (hc : c + xs.length ≤ 100000000000000)
    (q : ∀ ys g', ys.Perm xs → St g' r r0 (c + xs.length) → Fr r r0 g g' → Q (dInts ys) ⟨sl, g'⟩) :
    Ok (m_l_mixed [.box r, dInts xs] ⟨[], g⟩) (fun d S2 => Ok (frzD d ⟨sl, S2.g⟩) Q) := by
  have hsl := sizeLine_eq
  have h1 : (xs.map D.int).length < sizeLine := by rw [List.length_map]; omega
  have h2 : c + (xs.map D.int).length ≤ 100000000000000 := by rw [List.length_map]; exact hc
  refine (mixed_ok s (vwD_lst (xs := xs.map D.int)) h1 h2).imp ?_
  rintro d ⟨sl2, g2⟩ ⟨_, s2, f2, ys, p, hp, rfl, p1, p2, hq⟩
  rw [List.length_map] at s2
  obtain ⟨zs, rfl, hz⟩ := perm_map hp
  rw [ok_frzD hq]
  exact q zs _ hz (s2.del (fun e => by have := s.l1; omega) (fun e => by have := s.l2; omega)) (f2.del p1)
def LongR (A : Int) (i : Nat) (w : List Int) : Prop := ∃ k, k < i ∧ ∃ row, Rw A row ∧ w = (A + 2 * (k : Int)) :: (row ++ [A + 2 * (k : Int) + 1])
def ShortR (A : Int) (many p : Nat) (w : List Int) : Prop := ∃ a b : Nat, a < many ∧ b < many ∧ a ≠ b ∧ a * many + b < p ∧ w = [A + 2 * (a : Int), A + 2 * (b : Int) + 1]
theorem LongR.rw {A : Int} {i : Nat} {w : List Int} (hA : 0 ≤ A) (h : LongR A i w) : Rw (A + 2 * i) w := by
  obtain ⟨k, hk, row, hr, rfl⟩ := h
  refine ⟨by simp, ?_, ?_⟩
  · rw [List.nodup_cons, List.nodup_append]
    refine ⟨?_, hr.nd, by simp, ?_⟩
    · intro hm
      rcases List.mem_append.mp hm with h | h
      · have := hr.bd _ h; omega
      · simp at h; omega
    · intro a ha b hb e
      simp at hb
      have := hr.bd _ ha
      omega
  · intro z hz
    rcases List.mem_cons.mp hz with h | h
    · omega
    · rcases List.mem_append.mp h with h | h
      · have := hr.bd _ h; omega
      · simp at h; omega
theorem ShortR.rw {A : Int} {many p : Nat} {w : List Int} (hA : 0 ≤ A) (h : ShortR A many p w) : Rw (A + 2 * many) w := by
  obtain ⟨a, b, ha, hb, hab, _, rfl⟩ := h
  refine ⟨by simp, ?_, ?_⟩
  · simp; omega
  · intro z hz
    simp at hz
    omega
noncomputable def lp_2 : M Fl :=
  (asgM (.tp [(.nm 5), (.nm 6)]) (tupM (consM (bd (lstM nilM) boxC) (consM (bd (lstM nilM) boxC) nilM))))
noncomputable def lp_3 : M Fl :=
  (bd (bd (rd 3) rng1) (forM (.nm 7)
  (seqM (setM 8 (slM (hdE (bd (callM m_l_mixed (consM (rd 0) (consM (bd (bd (rd 1) rngC1) frzC) nilM))) frzD)) (ret none) (bd (bop addI (ret (.int 1)) (callM m_l_draw (consM (rd 0) (consM (rd 1) nilM)))) oint)))
  (seqM (ifM (bd (rd 4) asB)
  (setM 8 (ixM (hdE (bd (lstM (consM (bd (lstM (consM (ret (.int 0)) nilM)) frzC) (consM (bd (callM m_l_mixed (consM (rd 0) (consM (bd (lstM (consM (ret (.int 0)) (consM (ret (.int 1)) nilM))) frzC) nilM))) frzD) (consM (bd (lstM (consM (ret (.int 1)) nilM)) frzC) nilM)))) frzC)) (rd 7)))
  (ret .nx))
  (seqM (exprM (mutM appF (plN 5) (consM (rd 8) nilM)))
  (exprM (mutM appF (plN 6) (consM (bd (catC (hdE (bd (catC (hdE (bd (lstM (consM (bop addI (rd 1) (bop mulI (ret (.int 2)) (rd 7))) nilM)) frzC)) (hdN 8)) frzC)) (hdE (bd (lstM (consM (bop addI (bop addI (rd 1) (bop mulI (ret (.int 2)) (rd 7))) (ret (.int 1))) nilM)) frzC))) frzC) nilM))))))))
noncomputable def lp_4 : M Fl :=
  (bd (bd (rd 3) rng1) (forM (.nm 9)
  (bd (bd (rd 3) rng1) (forM (.nm 10)
  (ifM (andM (bopT neM (rd 9) (rd 10)) (bd (h1 (hdE (bd (lcM (bd (ixM (hdN 5) (rd 9)) itemsD) (.nm 11) [11] yesM (inM false (rd 11) (hdE (ixM (hdN 5) (rd 10))))) frzC)) anyF) asB))
  (exprM (mutM appF (plN 6) (consM (bd (lstM (consM (bop addI (rd 1) (bop mulI (ret (.int 2)) (rd 9))) (consM (bop addI (bop addI (rd 1) (bop mulI (ret (.int 2)) (rd 10))) (ret (.int 1))) nilM))) frzC) nilM)))
  (ret .nx))))))
noncomputable def lp_5 : M Fl :=
  (retM (tupM (consM (bop addI (rd 1) (bop mulI (ret (.int 2)) (rd 3))) (consM (bd (rd 6) frzD) nilM))))
theorem lp_eq : b_l_leaped = seqM (parM [3, 4] (pVal (bop addI (ret (.int 2)) (callM m_l_draw (consM (rd 0) (consM (bop subI (rd 2) (ret (.int 1))) nilM)))) (pVal (andV (bop gtI (rd 2) (ret (.int 2))) (bop eqM (callM m_l_draw (consM (rd 0) (consM (ret (.int 2)) nilM))) (ret (.int 0)))) pNil))) (seqM (parM [3, 1] (pVal (ifM (bd (rd 4) asB) (ret (.int 3)) (rd 3)) (pVal (ifM (bd (rd 4) asB) (ret (.int 2)) (rd 1)) pNil))) (seqM lp_2 (seqM lp_3 (seqM lp_4 lp_5)))) := rfl
def LpI1 (g : G) (r r0 : Nat) (c A top : Int) (many : Nat) (ch : Bool) (p : Nat) (i : Nat) (S : Sg) : Prop := ∃ (inner found : List (List Int)) (x7 x8 : Slot),
  S.sl = [.val (.box r), .val (.int A), .val (.int top), .val (.int many), .val (.bl ch), .val (.box p), .val (.box (p + 1)), x7, x8, .emp, .emp, .emp] ∧ St S.g r r0 (c + i * 20) ∧ Fr r r0 g S.g ∧ p + 1 < S.g.nx ∧ S.g.cs p = some (.lst (inner.map dInts)) ∧
  S.g.cs (p + 1) = some (.lst (found.map dInts)) ∧ inner.length = i ∧ (∀ row ∈ inner, Rw A row) ∧ found.Nodup ∧ found.length ≤ i ∧ ∀ w ∈ found, LongR A i w
theorem cmul2 {k : Nat} (h : k < 1000) : CMulW 2 (k : Int) := cmulW_of (a := 2) (b := 10) (by decide) (by omega) (by decide)
theorem LongR.mono {A : Int} {i j : Nat} {w : List Int} (h : LongR A i w) (l : i ≤ j) : LongR A j w := by
  obtain ⟨k, hk, row, hr, e⟩ := h
  exact ⟨k, by omega, row, hr, e⟩
theorem LongR.new {A : Int} {i : Nat} {row : List Int} (found : List (List Int)) (h : ∀ w ∈ found, LongR A i w) : (A + 2 * (i : Int)) :: (row ++ [A + 2 * (i : Int) + 1]) ∉ found := by
  intro hm
  obtain ⟨k, hk, row', hr, e⟩ := h _ hm
  simp at e
  omega
/-- one turn of the first loop, its row drawn -/
theorem leap_app {g0 g : G} {r r0 : Nat} {c A top : Int} {many : Nat} {ch : Bool} {p i : Nat} {inner found : List (List Int)} {row : List Int} (hi : i < 1000)
    (s : St g r r0 (c + (i + 1 : Nat) * 20)) (f : Fr r r0 g0 g) (hp0 : g0.nx ≤ p) (hp : p + 1 < g.nx) (hr1 : p ≠ r) (hr2 : p ≠ r0) (hr3 : p + 1 ≠ r) (hr4 : p + 1 ≠ r0) (c1 : g.cs p = some (.lst (inner.map dInts))) (c2 : g.cs (p + 1) = some (.lst (found.map dInts)))
    (hl : inner.length = i) (hin : ∀ row ∈ inner, Rw A row) (hnd : found.Nodup) (hfl : found.length ≤ i) (hf : ∀ w ∈ found, LongR A i w) (hrow : Rw A row) (hA : A ≤ 1000) :
    Ok ((seqM (exprM (mutM appF (plN 5) (consM (rd 8) nilM)))
  (exprM (mutM appF (plN 6) (consM (bd (catC (hdE (bd (catC (hdE (bd (lstM (consM (bop addI (rd 1) (bop mulI (ret (.int 2)) (rd 7))) nilM)) frzC)) (hdN 8)) frzC)) (hdE (bd (lstM (consM (bop addI (bop addI (rd 1) (bop mulI (ret (.int 2)) (rd 7))) (ret (.int 1))) nilM)) frzC))) frzC) nilM))))
      ⟨[.val (.box r), .val (.int A), .val (.int top), .val (.int many), .val (.bl ch), .val (.box p), .val (.box (p + 1)), .val (.int (i : Nat)), .val (dInts row), .emp, .emp, .emp], g⟩) fun f S => f = Fl.nx ∧ LpI1 g0 r r0 c A top many ch p (i + 1) S := by
  have hsl := sizeLine_eq
  have hrl := hrow.len
  have hpp : p + 1 ≠ p := by omega
  simp [hsl, ok_seqM, ok_mutM, ok_plN, ok_rd, c1, c2, appF, put_cs, hpp, ok_catC, ok_hdN]
  rw [if_pos (by omega), onO_some]
  simp [hsl, c2, put_cs, hpp]
  repeat (first | refine And.intro (by omega) ?_ | refine And.intro (cmul2 hi) ?_)
  rw [if_pos (by omega), onO_some]
  refine ⟨inner ++ [row], found ++ [(A + 2 * (i : Int)) :: (row ++ [A + 2 * (i : Int) + 1])], _, _, rfl, (s.put hr1 hr2).put hr3 hr4, (f.put hp0).put (by omega), hp, ?_, ?_, by simp; omega, ?_, nodup_snoc hnd (LongR.new _ hf), by simp; omega, ?_⟩
  · simp [put_cs]
  · simp [put_cs, dInts]
  · intro w hw
    rcases List.mem_append.mp hw with h | h
    · exact hin w h
    · simp at h; subst h; exact hrow
  · intro w hw
    rcases List.mem_append.mp hw with h | h
    · exact (hf w h).mono (by omega)
    · simp at h; subst h; exact ⟨i, by omega, row, hrow, rfl⟩
theorem leap_loop1 {g0 g : G} {r r0 : Nat} {c A top : Int} {many : Nat} {ch : Bool} {p : Nat} (hA : 1 ≤ A) (hA2 : A ≤ 6) (hm : many ≤ 3) (hch : ch = true → many = 3 ∧ A = 2)
    (s : St g r r0 c) (f : Fr r r0 g0 g) (hc : c + 60 ≤ 100000000000000) (hp0 : g0.nx ≤ p) (hp : p + 1 < g.nx) (hr1 : p ≠ r) (hr2 : p ≠ r0) (hr3 : p + 1 ≠ r) (hr4 : p + 1 ≠ r0) (c1 : g.cs p = some (.lst [])) (c2 : g.cs (p + 1) = some (.lst [])) :
    Ok (lp_3 ⟨[.val (.box r), .val (.int A), .val (.int top), .val (.int many), .val (.bl ch), .val (.box p), .val (.box (p + 1)), .emp, .emp, .emp, .emp, .emp], g⟩) fun f S => f = Fl.nx ∧ LpI1 g0 r r0 c A top many ch p many S := by
  have hsl := sizeLine_eq
  unfold lp_3
  simp only [ok_bd]
  refine ok_rdv rfl ?_
  rw [ok_rng1]
  refine ⟨by omega, ?_⟩
  refine ok_forM (LpI1 g0 r r0 c A top many ch p) (fun _ _ _ _ => trivial) ⟨[], [], _, _, rfl, by simpa using s, f, hp, c1, c2, rfl, by simp, by simp, by simp, by simp⟩ ?_ ?_
  · rintro i d ⟨sl, g1⟩ hd ⟨inner, found, x7, x8, rfl, s1, f1, hp1, d1, d2, hl, hin, hnd, hfl, hf⟩
    obtain ⟨hi, rfl⟩ := rngD_get hd
    have hi : i < many := hi
    have s1 : St g1 r r0 (c + i * 20) := s1
    have f1 : Fr r r0 g0 g1 := f1
    have hp1 : p + 1 < g1.nx := hp1
    have d1 : g1.cs p = some (.lst (inner.map dInts)) := d1
    have d2 : g1.cs (p + 1) = some (.lst (found.map dInts)) := d2
    refine ⟨_, asg_nm, ?_⟩
    rw [show (D.int (0 + (i : Nat))) = D.int (i : Nat) from by rw [Int.zero_add]]
    rw [ok_seqM, ok_setM]
    refine rowM (i := 0) (j := 1) rfl rfl s1 hA (by omega) (by omega) ?_
    intro row g2 hrow s2 f2
    rw [seqQ_nx, ok_seqM, ok_ifM, ok_bd]
    refine ok_rdv rfl ?_
    rw [ok_asB]
    have e1 : g2.cs p = some (.lst (inner.map dInts)) := f2.keep d1 (by omega) hr1 hr2
    have e2 : g2.cs (p + 1) = some (.lst (found.map dInts)) := f2.keep d2 hp1 hr3 hr4
    have hp2 : p + 1 < g2.nx := Nat.lt_of_lt_of_le hp1 f2.nx
    have fin : ∀ (row : List Int) (g3 : G), Rw A row → St g3 r r0 (c + (i + 1 : Nat) * 20) → Fr r r0 g2 g3 → Ok ((seqM (exprM (mutM appF (plN 5) (consM (rd 8) nilM)))
        (exprM (mutM appF (plN 6) (consM (bd (catC (hdE (bd (catC (hdE (bd (lstM (consM (bop addI (rd 1) (bop mulI (ret (.int 2)) (rd 7))) nilM)) frzC)) (hdN 8)) frzC)) (hdE (bd (lstM (consM (bop addI (bop addI (rd 1) (bop mulI (ret (.int 2)) (rd 7))) (ret (.int 1))) nilM)) frzC))) frzC) nilM))))
        ⟨[.val (.box r), .val (.int A), .val (.int top), .val (.int many), .val (.bl ch), .val (.box p), .val (.box (p + 1)), .val (.int (i : Nat)), .val (dInts row), .emp, .emp, .emp], g3⟩) fun f S => f = Fl.nx ∧ LpI1 g0 r r0 c A top many ch p (i + 1) S :=
      fun row g3 hrow s3 f3 => leap_app (by omega) s3 ((f1.trans f2).trans f3) hp0 (Nat.lt_of_lt_of_le hp2 f3.nx) hr1 hr2 hr3 hr4 (f3.keep e1 (by omega) hr1 hr2) (f3.keep e2 hp2 hr3 hr4) hl hin hnd hfl hf hrow (by omega)
    cases ch with
    | false =>
      rw [if_neg (by decide), ok_ret, seqQ_nx]
      exact (fin row g2 hrow (s2.mono (by omega)) (.refl _)).imp fun f S ⟨e, h⟩ => by subst e; exact h
    | true =>
      obtain ⟨rfl, rfl⟩ := hch rfl
      rw [if_pos rfl, ok_setM, ok_ixM, ok_hdE]
      simp [hsl, ok_rd, ok_callM]
      refine mixK (xs := [0, 1]) s2 (by simp) (by simp; omega) ?_
      intro ys g3 hy s3 f3
      have s3' : St g3 r r0 (c + (i + 1 : Nat) * 20) := s3.mono (by simp; omega)
      have hys : Rw 2 ys := by
        refine ⟨fun e => ?_, hy.nodup_iff.mpr (by decide), fun z hz => ?_⟩
        · subst e; have := hy.length_eq; simp at this
        · have := hy.mem_iff.mp hz
          simp at this
          omega
      refine ok_rdv rfl ?_
      rw [ok_ixPI]
      have one : ∀ z : Int, 0 ≤ z → z < 2 → Rw 2 [z] := fun z h1 h2 => ⟨by simp, by simp, fun w hw => by simp at hw; omega⟩
      rcases (by omega : i = 0 ∨ i = 1 ∨ i = 2) with rfl | rfl | rfl
      · rw [atI_nat (v := dInts [0]) rfl, onO_some]
        refine (fin [0] g3 (one 0 (by decide) (by decide)) s3' f3).imp ?_
        rintro f S ⟨rfl, h⟩
        exact h
      · rw [atI_nat (v := dInts ys) rfl, onO_some]
        refine (fin ys g3 hys s3' f3).imp ?_
        rintro f S ⟨rfl, h⟩
        exact h
      · rw [atI_nat (v := dInts [1]) rfl, onO_some]
        refine (fin [1] g3 (one 1 (by decide) (by decide)) s3' f3).imp ?_
        rintro f S ⟨rfl, h⟩
        exact h
  · intro S h
    have h : LpI1 g0 r r0 c A top many ch p (rngD 0 many).length S := by rw [← Int.toNat_natCast many]; exact h
    rw [rngD_len] at h
    exact ⟨rfl, h⟩
def LpI3 (g : G) (r r0 : Nat) (c A top : Int) (many : Nat) (ch : Bool) (p : Nat) (inner : List (List Int)) (a t : Nat) (S : Sg) : Prop := ∃ (found : List (List Int)) (x7 x8 x10 : Slot),
  S.sl = [.val (.box r), .val (.int A), .val (.int top), .val (.int many), .val (.bl ch), .val (.box p), .val (.box (p + 1)), x7, x8, .val (.int a), x10, .emp] ∧ St S.g r r0 c ∧ Fr r r0 g S.g ∧ p + 1 < S.g.nx ∧ S.g.cs p = some (.lst (inner.map dInts)) ∧
  S.g.cs (p + 1) = some (.lst (found.map dInts)) ∧ found.Nodup ∧ found.length ≤ many + a * many + t ∧ ∀ w ∈ found, LongR A many w ∨ ShortR A many (a * many + t) w
def LpI2 (g : G) (r r0 : Nat) (c A top : Int) (many : Nat) (ch : Bool) (p : Nat) (inner : List (List Int)) (a : Nat) (S : Sg) : Prop := ∃ (found : List (List Int)) (x7 x8 x9 x10 : Slot),
  S.sl = [.val (.box r), .val (.int A), .val (.int top), .val (.int many), .val (.bl ch), .val (.box p), .val (.box (p + 1)), x7, x8, x9, x10, .emp] ∧ St S.g r r0 c ∧ Fr r r0 g S.g ∧ p + 1 < S.g.nx ∧ S.g.cs p = some (.lst (inner.map dInts)) ∧
  S.g.cs (p + 1) = some (.lst (found.map dInts)) ∧ found.Nodup ∧ found.length ≤ many + a * many ∧ ∀ w ∈ found, LongR A many w ∨ ShortR A many (a * many) w
theorem ShortR.mono {A : Int} {many p q : Nat} {w : List Int} (h : ShortR A many p w) (l : p ≤ q) : ShortR A many q w := by
  obtain ⟨a, b, h1, h2, h3, h4, h5⟩ := h
  exact ⟨a, b, h1, h2, h3, by omega, h5⟩
theorem ShortR.new {A : Int} {many a b : Nat} (found : List (List Int)) (hf : ∀ w ∈ found, LongR A many w ∨ ShortR A many (a * many + b) w) : [A + 2 * (a : Int), A + 2 * (b : Int) + 1] ∉ found := by
  intro hm
  rcases hf _ hm with ⟨k, hk, row, hr, e⟩ | ⟨a', b', h1, h2, h3, h4, e⟩
  · have := congrArg List.length e
    simp at this
    exact hr.ne this
  · simp at e
    have e1 : a' = a := by omega
    have e2 : b' = b := by omega
    subst e1; subst e2
    omega
theorem leap_loop2 {g0 : G} {r r0 : Nat} {c A top : Int} {many : Nat} {ch : Bool} {p : Nat} {inner : List (List Int)} {S : Sg} (hA : 1 ≤ A) (hA2 : A ≤ 6) (hm : many ≤ 3) (hl : inner.length = many) (hin : ∀ row ∈ inner, Rw A row)
    (hp0 : g0.nx ≤ p) (hr1 : p ≠ r) (hr2 : p ≠ r0) (hr3 : p + 1 ≠ r) (hr4 : p + 1 ≠ r0) (h0 : LpI2 g0 r r0 c A top many ch p inner 0 S) :
    Ok (lp_4 S) fun f S => f = Fl.nx ∧ LpI2 g0 r r0 c A top many ch p inner many S := by
  have hsl := sizeLine_eq
  obtain ⟨sl, g⟩ := S
  have h00 := h0
  obtain ⟨found, x7, x8, x9, x10, rfl, _⟩ := h0
  unfold lp_4
  simp only [ok_bd]
  refine ok_rdv rfl ?_
  rw [ok_rng1]
  refine ⟨by omega, ?_⟩
  refine ok_forM (LpI2 g0 r r0 c A top many ch p inner) (fun _ _ _ _ => trivial) h00 ?_ ?_
  · rintro a d ⟨sl, g1⟩ hd ⟨found, x7, x8, x9, x10, rfl, s1, f1, hp1, d1, d2, hnd, hfl, hf⟩
    obtain ⟨ha, rfl⟩ := rngD_get hd
    have ha : a < many := ha
    refine ⟨_, asg_nm, ?_⟩
    rw [show (D.int (0 + (a : Nat))) = D.int (a : Nat) from by rw [Int.zero_add]]
    simp only [ok_bd]
    refine ok_rdv rfl ?_
    rw [ok_rng1]
    refine ⟨by omega, ?_⟩
    refine ok_forM (LpI3 g0 r r0 c A top many ch p inner a) (fun _ _ _ _ => trivial) ⟨found, x7, x8, x10, rfl, s1, f1, hp1, d1, d2, hnd, by omega, hf⟩ ?_ ?_
    · rintro b d ⟨sl, g2⟩ hd ⟨found, x7, x8, x10, rfl, s1, f1, hp1, d1, d2, hnd, hfl, hf⟩
      obtain ⟨hb, rfl⟩ := rngD_get hd
      have hb : b < many := hb
      have s1 : St g2 r r0 c := s1
      have f1 : Fr r r0 g0 g2 := f1
      have hp1 : p + 1 < g2.nx := hp1
      have d1 : g2.cs p = some (.lst (inner.map dInts)) := d1
      have d2 : g2.cs (p + 1) = some (.lst (found.map dInts)) := d2
      have hpp : p + 1 ≠ p := by omega
      refine ⟨_, asg_nm, ?_⟩
      rw [show (D.int (0 + (b : Nat))) = D.int (b : Nat) from by rw [Int.zero_add]]
      have ea : inner[a]? = some inner[a] := List.getElem?_eq_getElem (by omega)
      have eb : inner[b]? = some inner[b] := List.getElem?_eq_getElem (by omega)
      have fa : (inner.map dInts)[a]? = some (dInts inner[a]) := by rw [List.getElem?_map, ea]; rfl
      have fb : (inner.map dInts)[b]? = some (dInts inner[b]) := by rw [List.getElem?_map, eb]; rfl
      have keep : ∀ x10 : Slot, LpI3 g0 r r0 c A top many ch p inner a (b + 1) ⟨[.val (.box r), .val (.int A), .val (.int top), .val (.int many), .val (.bl ch), .val (.box p), .val (.box (p + 1)), x7, x8, .val (.int a), x10, .emp], g2⟩ :=
        fun x10 => ⟨found, x7, x8, x10, rfl, s1, f1, hp1, d1, d2, hnd, by omega, fun w hw => (hf w hw).imp id fun h => h.mono (by omega)⟩
      have hrl : inner[a].length ≤ 6 := by have := (hin inner[a] (List.getElem_mem _)).len; omega
      rw [ok_ifM, ok_andM, ok_bopT]
      refine ok_rdv rfl (ok_rdv rfl ?_)
      rw [ok_neI, ok_asB]
      by_cases hab : a = b
      · rw [if_neg (by simp [hab]), if_neg (by simp)]
        exact ok_ret.mpr (keep _)
      · rw [if_pos (by simp; omega), ok_bd, ok_h1, ok_hdE, ok_bd]
        refine ok_lcMap (ds := inner[a].map D.int) (f := upB fun z => decide (z ∈ inner[b])) (ok := fun _ => True) (by simp) rfl ?_ trivial (by rw [List.length_map]; omega) ?_ ?_
        · intro P hP
          simp [ok_ixM, ok_hdN, vw_boxI, d1, ok_rd, ok_ixPI, atI_nat fa]
          exact hP
        · intro d hd P hP
          obtain ⟨z, hz, rfl⟩ := mem_intsD hd
          simp [ok_inM, ok_rd, ok_hdN, ok_ixM, vw_boxI, d1, ok_ixPI, atI_nat fb]
          exact hP
        · rw [ok_frzC, map_bls (h := fun z => decide (z ∈ inner[b])) fun z => rfl, vw_lst, onO_some, ok_anyF, ok_asB]
          generalize List.any _ _ = bb
          cases bb
          · simp
            exact keep _
          · simp [hsl, ok_mutM, ok_plN, ok_rd, d2, appF]
            have ham : a * many ≤ 9 := Nat.mul_le_mul (by omega : a ≤ 3) hm
            refine ⟨cmul2 (by omega), cmul2 (by omega), ?_⟩
            rw [if_pos (by omega), onO_some]
            refine ⟨found ++ [[A + 2 * (a : Int), A + 2 * (b : Int) + 1]], _, _, _, rfl, s1.put hr3 hr4, f1.put (by omega), hp1, ?_, ?_, nodup_snoc hnd (ShortR.new found hf), by simp; omega, ?_⟩
            · simp [put_cs, d1]
            · simp [put_cs, dInts]
            · intro w hw
              rcases List.mem_append.mp hw with h | h
              · exact (hf w h).imp id fun h => h.mono (by omega)
              · simp at h; subst h; exact .inr ⟨a, b, ha, hb, hab, by omega, rfl⟩
    · intro S h
      obtain ⟨sl, g5⟩ := S
      have h : LpI3 g0 r r0 c A top many ch p inner a (rngD 0 many).length ⟨sl, g5⟩ := by rw [← Int.toNat_natCast many]; exact h
      rw [rngD_len] at h
      obtain ⟨found, x7, x8, x10, e, s1, f1, hp1, d1, d2, hnd, hfl, hf⟩ := h
      have e9 : (a + 1) * many = a * many + many := Nat.succ_mul a many
      exact ⟨found, x7, x8, _, x10, e, s1, f1, hp1, d1, d2, hnd, by rw [e9]; omega, by rw [e9]; exact hf⟩
  · intro S h
    have h : LpI2 g0 r r0 c A top many ch p inner (rngD 0 many).length S := by rw [← Int.toNat_natCast many]; exact h
    rw [rngD_len] at h
    exact ⟨rfl, h⟩
theorem leaped_ok {g : G} {r r0 : Nat} {c things top : Int} (s : St g r r0 c) (h1 : 1 ≤ things) (h2 : things ≤ 6) (t1 : 2 ≤ top) (t2 : top ≤ 3) (hc : c + 1000 ≤ 100000000000000) :
    Ok (m_l_leaped [.box r, .int things, .int top] ⟨[], g⟩) fun d S => St S.g r r0 (c + 1000) ∧ Fr r r0 g S.g ∧ ∃ n rs, d = .tup [.int n, dRows rs] ∧ Rws n rs ∧ 1 ≤ n ∧ n ≤ 100 ∧ rs.length ≤ 1000 := by
  have hsl := sizeLine_eq
  unfold m_l_leaped
  rw [ok_runF, lp_eq]
  have e : slots 12 [.box r, .int things, .int top] = [.val (.box r), .val (.int things), .val (.int top), .emp, .emp, .emp, .emp, .emp, .emp, .emp, .emp, .emp] := rfl
  rw [e]
  have key : ∀ (A : Int) (many : Nat) (ch : Bool) (g2 : G), 1 ≤ A → A ≤ 6 → many ≤ 3 → 1 ≤ many → (ch = true → many = 3 ∧ A = 2) → St g2 r r0 (c + 2) → Fr r r0 g g2 →
      Ok (seqM lp_2 (seqM lp_3 (seqM lp_4 lp_5)) ⟨[.val (.box r), .val (.int A), .val (.int top), .val (.int many), .val (.bl ch), .emp, .emp, .emp, .emp, .emp, .emp, .emp], g2⟩)
        (endQ fun d S => St S.g r r0 (c + 1000) ∧ Fr r r0 g S.g ∧ ∃ n rs, d = .tup [.int n, dRows rs] ∧ Rws n rs ∧ 1 ≤ n ∧ n ≤ 100 ∧ rs.length ≤ 1000) := by
    intro A many ch g2 hA hA2 hm hm1 hch s2 f2
    have l1 := s2.l1
    have l2 := s2.l2
    have l1' := s.l1
    have l2' := s.l2
    have lx := f2.nx
    rw [ok_seqM]
    unfold lp_2
    simp [hsl, asg, asgs]
    rw [ok_seqM]
    refine (leap_loop1 (g0 := g) (p := g2.nx) hA hA2 hm hch s2.add.add f2.add.add (by omega) lx (by simp [add_nx]) (by omega) (by omega) (by omega) (by omega) (by simp [add_cs, add_nx]) (by simp [add_cs, add_nx])).imp ?_
    rintro f ⟨sl, g3⟩ ⟨rfl, inner, found, x7, x8, rfl, s3, f3, hp, d1, d2, hl, hin, hnd, hfl, hf⟩
    rw [seqQ_nx, ok_seqM]
    refine (leap_loop2 (g0 := g) (c := c + 2 + many * 20) (inner := inner) hA hA2 hm hl hin lx (by omega) (by omega) (by omega) (by omega) ⟨found, _, _, _, _, rfl, s3, f3, hp, d1, d2, hnd, by omega, fun w hw => .inl (hf w hw)⟩).imp ?_
    rintro f ⟨sl, g4⟩ ⟨rfl, found, x7, x8, x9, x10, rfl, s4, f4, hp, d1, d2, hnd, hfl, hf⟩
    have s4 : St g4 r r0 (c + 2 + many * 20) := s4
    have f4 : Fr r r0 g g4 := f4
    have d2 : g4.cs (g2.nx + 1) = some (.lst (found.map dInts)) := d2
    have hmm : many * many ≤ 9 := Nat.mul_le_mul hm hm
    rw [seqQ_nx]
    unfold lp_5
    simp [hsl, ok_rd]
    refine ⟨cmul2 (by omega), ?_⟩
    rw [ok_frzD d2]
    refine ⟨(s4.del (by omega) (by omega)).mono (by omega), f4.del (by omega), A + 2 * many, found, ⟨rfl, rfl⟩, ⟨hnd, fun row hrow => ?_⟩, by omega, by omega, by omega⟩
    rcases hf row hrow with h | h
    · exact h.rw (by omega)
    · exact h.rw (by omega)
  simp only [ok_seqM (b := seqM _ (seqM lp_2 _))]
  simp [ok_rd, ok_callM]
  refine (draw_ok s (by omega) (by omega) (by omega)).imp ?_
  rintro _ ⟨_, g1⟩ ⟨_, s1, f1, z, rfl, z0, z1⟩
  have s1 : St g1 r r0 (c + 1) := s1
  have f1 : Fr r r0 g g1 := f1
  have ez : (2 : Int) + z = ((2 + z.toNat : Nat) : Int) := by omega
  simp [ok_andV, ok_rd]
  split
  · simp [ok_callM, ok_rd]
    refine (draw_ok s1 (by omega) (by omega) (by omega)).imp ?_
    rintro _ ⟨_, g2⟩ ⟨_, s2, f2, z', rfl, z0', z1'⟩
    have s2 : St g2 r r0 (c + 1 + 1) := s2
    have f2 : Fr r r0 g1 g2 := f2
    have s2 : St g2 r r0 (c + 2) := s2.mono (by omega)
    rcases (by omega : z' = 0 ∨ z' = 1) with rfl | rfl
    · simp
      rw [ok_seqM]
      simp [ok_rd, ok_ifM]
      exact key 2 3 true g2 (by decide) (by decide) (by decide) (by decide) (by simp) s2 (f1.trans f2)
    · simp
      rw [ok_seqM]
      simp [ok_rd, ok_ifM]
      rw [ez]
      exact key things (2 + z.toNat) false g2 h1 h2 (by omega) (by omega) (by simp) s2 (f1.trans f2)
  · rw [ok_seqM]
    simp [ok_rd, ok_ifM]
    rw [ez]
    exact key things (2 + z.toNat) false g1 h1 h2 (by omega) (by omega) (by simp) (s1.mono (by omega)) f1
end Lw
end

section
/-! K01k: trails. -/
namespace Lw
open PySem L2 Mm
def dP (p : Int × Int) : D := .tup [.int p.1, .int p.2]
def dPairs (ps : List (Int × Int)) : D := .lst (ps.map dP)
@[simp] theorem vw_dP {S : Sg} {ps : List (Int × Int)} : vwH S (.d (dPairs ps)) = some (true, ps.map dP) := rfl
@[simp] theorem vwD_dP {S : Sg} {ps : List (Int × Int)} : vwD S (dPairs ps) = some (true, ps.map dP) := rfl
def toP (roads : List (Int × Int)) (k : Int) : Int := (roads[k.toNat]?.getD (0, 0)).2
def fromP (roads : List (Int × Int)) (k : Int) : Int := (roads[k.toNat]?.getD (0, 0)).1
structure Tr (roads : List (Int × Int)) (start : Int) (row met : List Int) : Prop where
  met : met = start :: row.map (toP roads)
  bd : ∀ k ∈ row, 0 ≤ k ∧ k < roads.length
  hd : ∀ k, row.head? = some k → fromP roads k = start
structure GoodT (roads : List (Int × Int)) (P : Nat) (start : Int) (row : List Int) : Prop where
  ne : row ≠ []
  ex : ∃ met, Tr roads start row met ∧ met.Nodup ∧ ∀ z ∈ met, 0 ≤ z ∧ z < (P : Int)
def Tn : Nat → Nat
  | 0 => 1
  | u + 1 => 1 + 9 * Tn u
def Kn : Nat → Nat
  | 0 => 0
  | u + 1 => Tn u
theorem Tn_K (u : Nat) : Tn u = 1 + 9 * Kn u := by cases u <;> rfl
theorem Tn_le : ∀ {u : Nat}, u ≤ 6 → Tn u ≤ 597871
  | 0, _ => by decide
  | 1, _ => by decide
  | 2, _ => by decide
  | 3, _ => by decide
  | 4, _ => by decide
  | 5, _ => by decide
  | 6, _ => by decide
  | u + 7, h => by omega
def TrI (g : G) (roads : List (Int × Int)) (P : Nat) (start here : Int) (ends met row : List Int) (K : Nat) (i : Nat) (S : Sg) : Prop := ∃ (found : List (List Int)) (x6 x7 x8 : Slot),
  S.sl = [.val (.int here), .val (dInts ends), .val (dPairs roads), .val (dInts met), .val (dInts row), .own (.lst (found.map dInts)), x6, x7, x8] ∧ S.g = g ∧ found.length ≤ 1 + i * K ∧ ∀ t ∈ found, GoodT roads P start t
theorem pairs_get {ps : List (Int × Int)} {i : Nat} {d : D} (h : (enFrom 0 (ps.map dP))[i]? = some d) : ∃ p, ps[i]? = some p ∧ d = .tup [.int (i : Nat), dP p] ∧ p ∈ ps ∧ i < ps.length := by
  rw [enFrom_get, List.getElem?_map] at h
  cases hr : ps[i]? with
  | none => rw [hr] at h; simp at h
  | some row =>
    rw [hr] at h
    simp at h
    exact ⟨row, rfl, h.symm, List.mem_of_getElem? hr, (List.getElem?_eq_some_iff.mp hr).1⟩
def TrPost (roads : List (Int × Int)) (P : Nat) (start : Int) (g : G) (K : Nat) (d : D) (S : Sg) : Prop := S.g = g ∧ ∃ found, d = dRows found ∧ found.length ≤ K ∧ ∀ t ∈ found, GoodT roads P start t
theorem ok_neI0 {S : Sg} {Q : D → Sg → Prop} {ns : List Int} : Ok (neM (dInts ns) (.lst []) S) Q ↔ Q (.bl (!decide (ns = []))) S := by
  have e : D.lst [] = dInts [] := rfl
  rw [e, ok_neR]
theorem trail_step {roads : List (Int × Int)} {P u : Nat} {start : Int} {ends : List Int} {f : F} (hP : P ≤ 7) (hro : ∀ p ∈ roads, 0 ≤ p.2 ∧ p.2 < (P : Int)) (hrl : roads.length ≤ 9) (hu : u ≤ 6)
    (hrec : ∀ (here : Int) (met row : List Int) (g : G), Tr roads start row met → met.Nodup → (∀ z ∈ met, 0 ≤ z ∧ z < (P : Int)) → met.length + u = P + 1 → row ≠ [] → Ok (f [.int here, dInts ends, dPairs roads, dInts met, dInts row] ⟨[], g⟩) (TrPost roads P start g (Kn u)))
    {here : Int} {met row : List Int} {g : G} (tr : Tr roads start row met) (hnd : met.Nodup) (hbd : ∀ z ∈ met, 0 ≤ z ∧ z < (P : Int)) (hl : met.length + u = P) (hh : row = [] → here = start) :
    Ok (runF 9 (b_l_trails f) [.int here, dInts ends, dPairs roads, dInts met, dInts row] ⟨[], g⟩) (TrPost roads P start g (Tn u)) := by
  have hsl := sizeLine_eq
  have hTn := Tn_le hu
  have hK := Tn_K u
  have hrow : row.length ≤ 7 := by
    have := congrArg List.length tr.met
    simp at this
    omega
  rw [ok_runF]
  unfold b_l_trails
  have e : slots 9 [.int here, dInts ends, dPairs roads, dInts met, dInts row] = [.val (.int here), .val (dInts ends), .val (dPairs roads), .val (dInts met), .val (dInts row), .emp, .emp, .emp, .emp] := rfl
  rw [e, ok_seqM]
  have tail : ∀ found : List (List Int), found.length ≤ 1 → (∀ t ∈ found, GoodT roads P start t) → Ok (seqM (bd (bd (rd 2) enumS) (forM (.tp [(.nm 6), (.tp [(.nm 7), (.nm 8)])])
      (ifM (andM (bopT eqM (rd 7) (rd 0)) (bd (inM true (rd 8) (hdN 3)) asB))
      (exprM (extM (plN 5) (hdE (callM f (consM (rd 8) (consM (rd 1) (consM (rd 2) (consM (bd (catC (hdN 3) (hdE (bd (lstM (consM (rd 8) nilM)) frzC))) frzC) (consM (bd (catC (hdN 4) (hdE (bd (lstM (consM (rd 6) nilM)) frzC))) frzC) nilM)))))))))
      (ret .nx)))) (retM (rd 5)) ⟨[.val (.int here), .val (dInts ends), .val (dPairs roads), .val (dInts met), .val (dInts row), .own (.lst (found.map dInts)), .emp, .emp, .emp], g⟩) (endQ (TrPost roads P start g (Tn u))) := by
    intro found hf1 hf2
    rw [ok_seqM]
    refine Ok.imp (Q := fun f S => f = Fl.nx ∧ TrI g roads P start here ends met row (Kn u) roads.length S) ?_ ?_
    · simp only [ok_bd]
      refine ok_rdv rfl ?_
      rw [ok_enumS, vwD_dP, onO_some]
      refine ok_forM (TrI g roads P start here ends met row (Kn u)) (fun _ _ _ _ => vwD_dP) ⟨found, _, _, _, rfl, rfl, by omega, hf2⟩ ?_ ?_
      · rintro i d ⟨sl, g1⟩ hd ⟨found, x6, x7, x8, rfl, rfl, hfl, hfg⟩
        obtain ⟨p, hp, rfl, hm, hi⟩ := pairs_get hd
        refine ⟨⟨[.val (.int here), .val (dInts ends), .val (dPairs roads), .val (dInts met), .val (dInts row), .own (.lst (found.map dInts)), .val (.int i), .val (.int p.1), .val (.int p.2)], g1⟩, by simp [asg, asgs, dP], ?_⟩
        have mono : i * Kn u ≤ (i + 1) * Kn u := Nat.mul_le_mul_right _ (by omega)
        have keep : TrI g1 roads P start here ends met row (Kn u) (i + 1) ⟨[.val (.int here), .val (dInts ends), .val (dPairs roads), .val (dInts met), .val (dInts row), .own (.lst (found.map dInts)), .val (.int i), .val (.int p.1), .val (.int p.2)], g1⟩ :=
          ⟨found, _, _, _, rfl, rfl, by omega, hfg⟩
        simp [ok_ifM, ok_andM, ok_rd, ok_inM, ok_hdN, vw_slI]
        split
        · rename_i h1
          split
          · exact keep
          · rename_i h2
            have ets : (p.2 :: []).map D.int = [D.int p.2] := rfl
            have eti : ((i : Int) :: []).map D.int = [D.int i] := rfl
            simp [hsl, ok_extM, ok_plN, getP, ok_callM, ok_rd, ok_catC, ok_hdN, vw_slI]
            refine ⟨by omega, by omega, ?_⟩
            rw [← eti, ← ets, fold_app, fold_app, fold_ints, fold_ints]
            have ep : roads[i]? = some p := hp
            have hto : toP roads (i : Int) = p.2 := by unfold toP; simp [ep]
            have hfr : fromP roads (i : Int) = p.1 := by unfold fromP; simp [ep]
            refine (hrec p.2 (met ++ [p.2]) (row ++ [(i : Int)]) g1 ⟨?_, ?_, ?_⟩ (nodup_snoc hnd h2) ?_ (by simp; omega) (by simp)).imp ?_
            · rw [tr.met, List.map_append]
              simp [hto]
            · intro k hk
              rcases List.mem_append.mp hk with h | h
              · exact tr.bd k h
              · simp at h; omega
            · intro k hk
              cases row with
              | nil =>
                simp at hk
                subst hk
                rw [hfr, h1]
                exact hh rfl
              | cons a row =>
                simp at hk
                exact tr.hd k (by simp [hk])
            · intro z hz
              rcases List.mem_append.mp hz with h | h
              · exact hbd z h
              · simp at h; subst h; exact hro p hm
            · rintro d ⟨sl2, g2⟩ ⟨rfl, more, rfl, hml, hmg⟩
              have hik : (i + 1) * Kn u ≤ 9 * Kn u := Nat.mul_le_mul_right _ (by omega)
              have e9 : (i + 1) * Kn u = i * Kn u + Kn u := Nat.succ_mul i _
              simp [getP]
              refine ⟨by omega, found ++ more, _, _, _, by rw [List.map_append], rfl, by simp; omega, ?_⟩
              intro t ht
              rcases List.mem_append.mp ht with h | h
              · exact hfg t h
              · exact hmg t h
        · exact keep
      · intro S h
        have h : TrI g roads P start here ends met row (Kn u) (enFrom 0 (roads.map dP)).length S := h
        rw [enFrom_len, List.length_map] at h
        exact ⟨rfl, h⟩
    · rintro fl ⟨sl, g1⟩ ⟨rfl, found, x6, x7, x8, rfl, rfl, hfl, hfg⟩
      simp [ok_rd]
      have hik : roads.length * Kn u ≤ 9 * Kn u := Nat.mul_le_mul_right _ hrl
      exact ⟨rfl, found, rfl, by omega, hfg⟩
  simp [ok_ifM, ok_andM, ok_rd, ok_inM, ok_hdN, vw_slI, ok_neI0]
  split
  · split
    · exact tail [] (by simp) (by simp)
    · rename_i h1 h2
      simp [hsl, ok_rd]
      exact tail [row] (by simp) fun t ht => by simp at ht; subst ht; exact ⟨h2, met, tr, hnd, hbd⟩
  · exact tail [] (by simp) (by simp)
theorem trails_ok {roads : List (Int × Int)} {P : Nat} {start : Int} {ends : List Int} (hP : P ≤ 7) (hro : ∀ p ∈ roads, 0 ≤ p.2 ∧ p.2 < (P : Int)) (hrl : roads.length ≤ 9) :
    ∀ (u fuel : Nat), u < fuel → ∀ (here : Int) (met row : List Int) (g : G), Tr roads start row met → met.Nodup → (∀ z ∈ met, 0 ≤ z ∧ z < (P : Int)) → met.length + u = P → (row = [] → here = start) →
    Ok (m_l_trails fuel [.int here, dInts ends, dPairs roads, dInts met, dInts row] ⟨[], g⟩) (TrPost roads P start g (Tn u)) := by
  intro u
  induction u with
  | zero =>
    intro fuel hf here met row g tr hnd hbd hl hh
    obtain ⟨n, rfl⟩ := Nat.exists_eq_succ_of_ne_zero (by omega : fuel ≠ 0)
    have e : m_l_trails (n + 1) = runF 9 (b_l_trails (m_l_trails n)) := rfl
    rw [Nat.succ_eq_add_one, e]
    refine trail_step hP hro hrl (by decide) (fun here met row g tr hnd hbd hl _ => ?_) tr hnd hbd hl hh
    have := pig P met hnd hbd
    omega
  | succ u ih =>
    intro fuel hf here met row g tr hnd hbd hl hh
    obtain ⟨n, rfl⟩ := Nat.exists_eq_succ_of_ne_zero (by omega : fuel ≠ 0)
    have e : m_l_trails (n + 1) = runF 9 (b_l_trails (m_l_trails n)) := rfl
    rw [Nat.succ_eq_add_one, e]
    have hm1 : 1 ≤ met.length := by have := congrArg List.length tr.met; simp at this; omega
    exact trail_step hP hro hrl (by omega) (fun here met row g tr hnd hbd hl hne => ih n (by omega) here met row g tr hnd hbd (by omega) (fun h => absurd h hne)) tr hnd hbd hl hh
end Lw
end

section
/-! K01l: webbed. -/
namespace Lw
open PySem L2 Mm
noncomputable def wb_0 : M Fl :=
  (ownM 4 (lstM nilM))
noncomputable def wb_1 : M Fl :=
  (bd (bd (bop subI (rd 2) (callM m_l_draw (consM (rd 0) (consM (bop subI (rd 2) (ret (.int 1))) nilM)))) rng1) (forM (.nm 5)
  (exprM (mutM appF (plN 4) (consM (h1 (hdE (slM (hdE (bd (callM m_l_mixed (consM (rd 0) (consM (bd (bd (rd 1) rngC1) frzC) nilM))) frzD)) (ret none) (bd (ret (.int 2)) oint))) (fun v => if v.1 = true then tupleF v else nope)) nilM)))))
noncomputable def wb_2 : M Fl :=
  (parM [6, 7] (pVal (bd (callM m_l_mixed (consM (rd 0) (consM (bd (bd (rd 1) rngC1) frzC) nilM))) frzD) (pVal (bop addI (ret (.int 1)) (callM m_l_draw (consM (rd 0) (consM (ret (.int 2)) nilM)))) pNil)))
noncomputable def wb_3 : M Fl :=
  (parM [8, 9, 10] (pVal (slM (hdN 6) (ret none) (bd (rd 7) oint)) (pVal (slM (hdN 6) (bd (rd 7) oint) (bd (bop addI (bop addI (rd 7) (ret (.int 1))) (callM m_l_draw (consM (rd 0) (consM (ret (.int 2)) nilM)))) oint)) (pOwn (lstM nilM) pNil))))
noncomputable def wb_4 : M Fl :=
  (bd (bd (rd 8) itemsD) (forM (.nm 11)
  (exprM (extM (plN 10) (hdE (callM (m_l_trails 60) (consM (rd 11) (consM (rd 9) (consM (rd 4) (consM (bd (lstM (consM (rd 11) nilM)) frzC) (consM (bd (lstM nilM) frzC) nilM)))))))))))
noncomputable def wb_5 : M Fl :=
  (ifM (bd (rd 3) asB)
  (ownM 10 (lcM (bd (rd 10) itemsD) (.nm 12) [12] yesM (bd (catC (hdE (bd (lstM (consM (ixM (hdE (ixM (hdN 4) (ixM (hdN 12) (ret (.int 0))))) (ret (.int 0))) nilM)) frzC)) (hdE (bd (lcM (bd (rd 12) itemsD) (.nm 13) [13] yesM (ixM (hdE (ixM (hdN 4) (rd 13))) (ret (.int 1)))) frzC))) frzC)))
  (ret .nx))
noncomputable def wb_6 : M Fl :=
  (retM (tupM (consM (ifM (bd (rd 3) asB) (rd 1) (h1 (hdN 4) lenF)) (consM (callM m_l_each_once (consM (rd 10) nilM)) nilM))))
theorem wb_eq : b_l_webbed = seqM wb_0 (seqM wb_1 (seqM wb_2 (seqM wb_3 (seqM wb_4 (seqM wb_5 wb_6))))) := rfl
theorem nodup_of_map {α β : Type} {f : α → β} {xs : List α} (h : (xs.map f).Nodup) : xs.Nodup := by
  unfold List.Nodup at *
  rw [List.pairwise_map] at h
  exact h.imp fun h e => h (by rw [e])
theorem GoodT.rw1 {roads : List (Int × Int)} {P : Nat} {start : Int} {row : List Int} (h : GoodT roads P start row) : Rw roads.length row := by
  obtain ⟨met, tr, hnd, _⟩ := h.ex
  rw [tr.met] at hnd
  exact ⟨h.ne, nodup_of_map (List.nodup_cons.mp hnd).2, tr.bd⟩
/-- a row of places -/
def pl (roads : List (Int × Int)) (row : List Int) : List Int := fromP roads (row.headD 0) :: row.map (toP roads)
theorem GoodT.rw2 {roads : List (Int × Int)} {P : Nat} {start : Int} {row : List Int} (h : GoodT roads P start row) : Rw P (pl roads row) := by
  obtain ⟨met, tr, hnd, hbd⟩ := h.ex
  have e : pl roads row = met := by
    rw [tr.met]
    unfold pl
    obtain ⟨k, ks, rfl⟩ := List.exists_cons_of_ne_nil h.ne
    rw [tr.hd ((k :: ks).headD 0) rfl]
  rw [e]
  exact ⟨by rw [tr.met]; simp, hnd, hbd⟩
/-- the roads drawn -/
def RdI (g : G) (r r0 : Nat) (c : Int) (P : Nat) (rds : Int) (isp : Bool) (i : Nat) (S : Sg) : Prop := ∃ (ps : List (Int × Int)) (x5 : Slot),
  S.sl = [.val (.box r), .val (.int P), .val (.int rds), .val (.bl isp), .own (.lst (ps.map dP)), x5, .emp, .emp, .emp, .emp, .emp, .emp, .emp, .emp] ∧ St S.g r r0 (c + i * 20) ∧ Fr r r0 g S.g ∧ ps.length = i ∧ ∀ p ∈ ps, 0 ≤ p.2 ∧ p.2 < (P : Int)
theorem web_1 {g : G} {r r0 : Nat} {c : Int} {P : Nat} {rds : Int} {isp : Bool} (s : St g r r0 c) (hP : 2 ≤ P) (hP2 : P ≤ 7) (hr1 : 2 ≤ rds) (hr2 : rds ≤ 9) (hc : c + 1000 ≤ 100000000000000) :
    Ok (wb_1 ⟨[.val (.box r), .val (.int P), .val (.int rds), .val (.bl isp), .own (.lst []), .emp, .emp, .emp, .emp, .emp, .emp, .emp, .emp, .emp], g⟩) fun f S => f = Fl.nx ∧ ∃ n, 1 ≤ n ∧ n ≤ 9 ∧ RdI g r r0 (c + 1) P rds isp n S := by
  have hsl := sizeLine_eq
  unfold wb_1
  simp [ok_rd, ok_callM]
  refine (draw_ok s (by omega) (by omega) (by omega)).imp ?_
  rintro _ ⟨_, g1⟩ ⟨_, s1, f1, z, rfl, z0, z1⟩
  have s1 : St g1 r r0 (c + 1) := s1
  have f1 : Fr r r0 g g1 := f1
  simp [ok_rng1]
  refine ⟨by omega, ?_⟩
  refine ok_forM (RdI g r r0 (c + 1) P rds isp) (fun _ _ _ _ => trivial) ⟨[], _, rfl, by simpa using s1, f1, rfl, by simp⟩ ?_ ?_
  · rintro i d ⟨sl, g2⟩ hd ⟨ps, x5, rfl, s2, f2, hl, hps⟩
    obtain ⟨hi, rfl⟩ := rngD_get hd
    have s2 : St g2 r r0 (c + 1 + i * 20) := s2
    have f2 : Fr r r0 g g2 := f2
    refine ⟨_, asg_nm, ?_⟩
    rw [ok_exprM, ok_mutM, ok_plN]
    simp only [List.set, List.getElem?_cons_succ, List.getElem?_cons_zero, getP, onL_lst]
    rw [ok_consM, ok_h1, ok_hdE, ok_slM, ok_hdE]
    refine mixR (i := 0) (j := 1) rfl rfl s2 (by omega) (by omega) (by omega) ?_
    intro ys g3 hy s3 f3
    have hyl : ys.length = P := by rw [hy.length_eq, rngI_len]; omega
    obtain ⟨a, b, zs, rfl⟩ : ∃ a b zs, ys = a :: b :: zs := by
      match ys, hyl with
      | [], h => simp at h; omega
      | [a], h => simp at h; omega
      | a :: b :: zs, _ => exact ⟨a, b, zs, rfl⟩
    have hb := rngI_mem.mp (hy.mem_iff.mp (show b ∈ a :: b :: zs by simp))
    have e2 : cutD (List.map D.int (a :: b :: zs)) none (some 2) = [.int a, .int b] := by rw [cut_to (by decide)]; rfl
    simp [e2, getP, appF]
    rw [if_pos (by omega), onO_some]
    refine ⟨ps ++ [(a, b)], _, by rw [List.map_append]; rfl, s3.mono (by omega), f2.trans f3, by simp; omega, ?_⟩
    intro p hp
    rcases List.mem_append.mp hp with h | h
    · exact hps p h
    · simp at h; subst h; exact ⟨by omega, by simp; omega⟩
  · intro S h
    have h : RdI g r r0 (c + 1) P rds isp (rngD 0 (rds - z).toNat).length S := h
    rw [rngD_len] at h
    exact ⟨rfl, (rds - z).toNat, by omega, by omega, h⟩

/-- the begins gone through -/
def WbI (g : G) (r r0 : Nat) (c : Int) (P : Nat) (rds : Int) (isp : Bool) (ps : List (Int × Int)) (x6 x7 : Slot) (bs es : List Int) (i : Nat) (S : Sg) : Prop := ∃ (x4 x5 x11 : Slot) (found : List (List Int)),
  S.sl = [.val (.box r), .val (.int P), .val (.int rds), .val (.bl isp), x4, x5, x6, x7, .val (dInts bs), .val (dInts es), .own (.lst (found.map dInts)), x11, .emp, .emp] ∧ (x4 = .own (.lst (ps.map dP)) ∨ x4 = .val (dPairs ps)) ∧ St S.g r r0 c ∧ Fr r r0 g S.g ∧
  found.length ≤ i * Tn (P - 1) ∧ ∀ t ∈ found, ∃ start, GoodT ps P start t
theorem web_4 {g : G} {r r0 : Nat} {c : Int} {P : Nat} {rds : Int} {isp : Bool} {ps : List (Int × Int)} {x6 x7 : Slot} {bs es : List Int} {S : Sg} (hP : 2 ≤ P) (hP2 : P ≤ 7) (hps : ∀ p ∈ ps, 0 ≤ p.2 ∧ p.2 < (P : Int)) (hpl : ps.length ≤ 9) (hbs : ∀ z ∈ bs, 0 ≤ z ∧ z < (P : Int)) (hbl : bs.length ≤ 10)
    (h0 : WbI g r r0 c P rds isp ps x6 x7 bs es 0 S) : Ok (wb_4 S) fun f S => f = Fl.nx ∧ WbI g r r0 c P rds isp ps x6 x7 bs es bs.length S := by
  have hsl := sizeLine_eq
  obtain ⟨sl, g0⟩ := S
  have h00 := h0
  obtain ⟨x4, x5, x11, found, rfl, _⟩ := h0
  unfold wb_4
  simp only [ok_bd]
  refine ok_rdv rfl ?_
  rw [ok_itemsD, vwD_dI, onO_some]
  refine ok_forM (WbI g r r0 c P rds isp ps x6 x7 bs es) (fun _ _ _ _ => vwD_dI) h00 ?_ ?_
  · rintro i d ⟨sl, g1⟩ hd ⟨x4, x5, x11, found, rfl, h4, s1, f1, hfl, hfg⟩
    have hd : (bs.map D.int)[i]? = some d := hd
    obtain ⟨here, hb, rfl⟩ := mem_intsD (List.mem_of_getElem? hd)
    have hi : i < bs.length := by have := (List.getElem?_eq_some_iff.mp hd).1; rwa [List.length_map] at this
    refine ⟨_, asg_nm, ?_⟩
    rw [ok_exprM, ok_extM, ok_plN]
    simp only [List.set, List.getElem?_cons_succ, List.getElem?_cons_zero, getP, onL_lst]
    rw [ok_hdE, ok_callM, ok_consM]
    refine ok_rdv rfl ?_
    rw [ok_consM]
    refine ok_rdv rfl ?_
    rw [ok_consM]
    have r4 : ∀ Q : D → Sg → Prop, Q (dPairs ps) ⟨[.val (.box r), .val (.int P), .val (.int rds), .val (.bl isp), .val (dPairs ps), x5, x6, x7, .val (dInts bs), .val (dInts es), .own (.lst (found.map dInts)), .val (.int here), .emp, .emp], g1⟩ →
        Ok (rd 4 ⟨[.val (.box r), .val (.int P), .val (.int rds), .val (.bl isp), x4, x5, x6, x7, .val (dInts bs), .val (dInts es), .own (.lst (found.map dInts)), .val (.int here), .emp, .emp], g1⟩) Q := by
      intro Q q
      rcases h4 with rfl | rfl
      · rw [ok_rd]; exact q
      · rw [ok_rd]; exact q
    refine r4 _ ?_
    simp only [ok_consM, ok_nilM, ok_bd, ok_lstM]
    refine ok_rdv rfl ?_
    have e1 : D.lst [D.int here] = dInts [here] := rfl
    have e2 : D.lst [] = dInts [] := rfl
    simp only [ok_frzC, e1, e2, List.length]
    refine ⟨by omega, by omega, ?_⟩
    refine (trails_ok hP2 hps hpl (P - 1) 60 (by omega) here [here] [] g1 ⟨by simp, by simp, by simp⟩ (by simp) (fun z hz => by simp at hz; subst hz; exact hbs z hb) (by simp; omega) (fun _ => rfl)).imp ?_
    rintro d ⟨sl2, g2⟩ ⟨e, more, rfl, hml, hmg⟩
    have e : g2 = g1 := e
    subst e
    have hT := Tn_le (u := P - 1) (by omega)
    have e9 : (i + 1) * Tn (P - 1) = i * Tn (P - 1) + Tn (P - 1) := Nat.succ_mul i _
    have e8 : i * Tn (P - 1) ≤ 10 * 597871 := Nat.mul_le_mul (by omega) hT
    simp [getP]
    refine ⟨by omega, ?_⟩
    refine ⟨_, _, _, found ++ more, by rw [List.map_append], .inr rfl, s1, f1, by simp; omega, ?_⟩
    intro t ht
    rcases List.mem_append.mp ht with h | h
    · exact hfg t h
    · exact ⟨here, hmg t h⟩
  · intro S h
    have h : WbI g r r0 c P rds isp ps x6 x7 bs es (bs.map D.int).length S := h
    rw [List.length_map] at h
    exact ⟨rfl, h⟩

theorem web_5 {g : G} {r r0 : Nat} {c : Int} {P : Nat} {rds : Int} {isp : Bool} {ps : List (Int × Int)} {x6 x7 : Slot} {bs es : List Int} {S : Sg} {i : Nat} (hi : i ≤ 10) (hP2 : P ≤ 7) (hpl : ps.length ≤ 9)
    (h0 : WbI g r r0 c P rds isp ps x6 x7 bs es i S) : Ok (wb_5 S) fun f S => f = Fl.nx ∧ ∃ (x4 x5 x8 x9 x11 : Slot) (found : List (List Int)),
      S.sl = [.val (.box r), .val (.int P), .val (.int rds), .val (.bl isp), x4, x5, x6, x7, x8, x9, .own (.lst (found.map dInts)), x11, .emp, .emp] ∧ (x4 = .own (.lst (ps.map dP)) ∨ x4 = .val (dPairs ps)) ∧ St S.g r r0 c ∧ Fr r r0 g S.g ∧
      found.length ≤ i * Tn (P - 1) ∧ ∀ t ∈ found, Rw (if isp = true then (P : Int) else (ps.length : Int)) t := by
  have hsl := sizeLine_eq
  obtain ⟨sl, g0⟩ := S
  obtain ⟨x4, x5, x11, found, rfl, h4, s1, f1, hfl, hfg⟩ := h0
  have hi9 : i * Tn (P - 1) ≤ 10 * 597871 := Nat.mul_le_mul hi (Tn_le (by omega))
  unfold wb_5
  rw [ok_ifM, ok_bd]
  refine ok_rdv rfl ?_
  rw [ok_asB]
  cases isp with
  | false =>
    rw [if_neg (by decide)]
    refine ok_ret.mpr ⟨rfl, x4, x5, _, _, x11, found, rfl, h4, s1, f1, by omega, fun t ht => ?_⟩
    obtain ⟨start, hg⟩ := hfg t ht
    exact hg.rw1
  | true =>
    rw [if_pos rfl, ok_ownM]
    have e : ∀ Q : Src → Sg → Prop, Q ⟨found.map dInts, fun S' => vwD S' (dRows found) = some (true, found.map dInts)⟩ ⟨[.val (.box r), .val (.int P), .val (.int rds), .val (.bl true), x4, x5, x6, x7, .val (dInts bs), .val (dInts es), .val (dRows found), x11, .emp, .emp], g0⟩ →
        Ok (bd (rd 10) itemsD ⟨[.val (.box r), .val (.int P), .val (.int rds), .val (.bl true), x4, x5, x6, x7, .val (dInts bs), .val (dInts es), .own (.lst (found.map dInts)), x11, .emp, .emp], g0⟩) Q := by
      intro Q q
      rw [ok_bd, ok_rd]
      simp only [List.getElem?_cons_succ, List.getElem?_cons_zero]
      rw [ok_itemsD, vwD_lst, onO_some]
      exact q
    have v4 : ∀ (a b : Slot), vwH ⟨[.val (.box r), .val (.int P), .val (.int rds), .val (.bl true), x4, x5, x6, x7, .val (dInts bs), .val (dInts es), .val (dRows found), x11, a, b], g0⟩ (.sl 4) = some (true, ps.map dP) := by
      intro a b
      rcases h4 with rfl | rfl <;> rfl
    have n4 : ∀ (a b : Slot) (Q : Hd → Sg → Prop), (∀ h, vwH ⟨[.val (.box r), .val (.int P), .val (.int rds), .val (.bl true), x4, x5, x6, x7, .val (dInts bs), .val (dInts es), .val (dRows found), x11, a, b], g0⟩ h = some (true, ps.map dP) → Q h ⟨[.val (.box r), .val (.int P), .val (.int rds), .val (.bl true), x4, x5, x6, x7, .val (dInts bs), .val (dInts es), .val (dRows found), x11, a, b], g0⟩) →
        Ok (hdN 4 ⟨[.val (.box r), .val (.int P), .val (.int rds), .val (.bl true), x4, x5, x6, x7, .val (dInts bs), .val (dInts es), .val (dRows found), x11, a, b], g0⟩) Q := by
      intro a b Q q
      rcases h4 with rfl | rfl
      · rw [ok_hdN]; exact q _ rfl
      · rw [ok_hdN]; exact q _ rfl
    have hg : ∀ t ∈ found, ∃ start, GoodT ps P start t := hfg
    refine ok_lcMapS (f := upR (pl ps)) e (by simp) (by rcases h4 with rfl | rfl <;> rfl) vwD_dR (by rw [List.length_map]; omega) ?_ ?_
    · intro d hd P' hP
      obtain ⟨row, hm, rfl⟩ := mem_rows hd
      obtain ⟨start, hgr⟩ := hg row hm
      rw [upR_ints] at hP
      obtain ⟨met, tr, hnd, hbd⟩ := hgr.ex
      have hrl : row.length ≤ 10 := by have := hgr.rw1.len; omega
      obtain ⟨k, ks, rfl⟩ := List.exists_cons_of_ne_nil hgr.ne
      have hk := tr.bd k (by simp)
      have ek : ps[k.toNat]? = some ps[k.toNat] := List.getElem?_eq_getElem (by omega)
      have getk : ∀ k : Int, 0 ≤ k → k < ps.length → ∃ p, atI (ps.map dP) k = some (dP p) ∧ fromP ps k = p.1 ∧ toP ps k = p.2 := by
        intro k h1 h2
        obtain ⟨m, rfl⟩ := Int.eq_ofNat_of_zero_le h1
        have hm : m < ps.length := by omega
        have e1 : ps[m]? = some (ps[m]'hm) := List.getElem?_eq_getElem hm
        exact ⟨ps[m]'hm, atI_nat (by rw [List.getElem?_map, e1]; rfl), by unfold fromP; rw [Int.toNat_natCast, e1]; rfl, by unfold toP; rw [Int.toNat_natCast, e1]; rfl⟩
      obtain ⟨p, hp1, hp2, hp3⟩ := getk k hk.1 hk.2
      rw [ok_bd, ok_catC, ok_hdE, ok_bd, ok_lstM, ok_consM, ok_ixM, ok_hdE, ok_ixM]
      refine n4 _ _ _ fun h hv => ?_
      simp [ok_ixM, ok_hdN, ok_ixPI]
      have a0 : atI (D.int k :: ks.map D.int) 0 = some (.int k) := atI_nat (j := 0) rfl
      have vp : ∀ (S : Sg) (p : Int × Int), vwH S (.d (dP p)) = some (false, [.int p.1, .int p.2]) := fun _ _ => rfl
      have p0 : ∀ p : Int × Int, atI [D.int p.1, D.int p.2] 0 = some (.int p.1) := fun _ => atI_nat (j := 0) rfl
      have p1 : ∀ p : Int × Int, atI [D.int p.1, D.int p.2] 1 = some (.int p.2) := fun _ => atI_nat (j := 1) rfl
      rw [a0, onO_some, hv, onO_some, ok_ixPI, hp1, onO_some, vp, onO_some, p0, onO_some]
      refine ⟨by omega, ?_⟩
      refine ok_lcMap (f := upI (toP ps)) (by simp) (by rcases h4 with rfl | rfl <;> rfl) (src_items rfl vwD_dI) vwD_dI (by rw [List.length_map]; omega) ?_ ?_
      · intro d hd P'' hP
        obtain ⟨z, hz, rfl⟩ := mem_intsD hd
        have hzb := tr.bd z hz
        obtain ⟨q, hq1, hq2, hq3⟩ := getk z hzb.1 hzb.2
        rw [upI_int, hq3] at hP
        rw [ok_ixM, ok_hdE, ok_ixM]
        refine n4 _ _ _ fun h hv => ?_
        refine ok_rdv rfl ?_
        rw [hv, onO_some, ok_ixPI, hq1, onO_some, ok_ret, vp, onO_some, ok_ixPI, p1, onO_some]
        exact hP
      · rw [map_ints (h := toP ps) fun z => rfl, ok_frzC, vw_lst, onO_some]
        refine ⟨⟨rfl, by simp at hrl ⊢; omega⟩, ?_⟩
        have e9 : D.lst (D.int p.1 :: ((k :: ks).map (toP ps)).map D.int) = dInts (pl ps (k :: ks)) := by
          unfold pl dInts
          rw [← hp2]; rfl
        rw [e9]
        exact hP
    · rw [map_rows (h := pl ps) fun row _ => upR_ints]
      refine ⟨rfl, x4, x5, _, _, x11, found.map (pl ps), rfl, h4, s1, f1, by rw [List.length_map]; omega, fun t ht => ?_⟩
      obtain ⟨row, hm, rfl⟩ := List.mem_map.mp ht
      obtain ⟨start, hgr⟩ := hfg row hm
      exact hgr.rw2
def WebQ (g : G) (r r0 : Nat) (c : Int) (P : Nat) (d : D) (S : Sg) : Prop := St S.g r r0 (c + 1000) ∧ Fr r r0 g S.g ∧ ∃ n rs, d = .tup [.int n, dRows rs] ∧ Rws n rs ∧ 1 ≤ n ∧ n ≤ 100 ∧ rs.length ≤ 2 * Tn (P - 1)
theorem webbed_ok {g : G} {r r0 : Nat} {c places rds : Int} {isp : Bool} (s : St g r r0 c) (h1 : 2 ≤ places) (h2 : places ≤ 7) (t1 : 2 ≤ rds) (t2 : rds ≤ 9) (hc : c + 1000 ≤ 100000000000000) :
    Ok (m_l_webbed [.box r, .int places, .int rds, .bl isp] ⟨[], g⟩) (WebQ g r r0 c places.toNat) := by
  have hsl := sizeLine_eq
  obtain ⟨P, rfl⟩ := Int.eq_ofNat_of_zero_le (by omega : 0 ≤ places)
  rw [Int.toNat_natCast]
  unfold m_l_webbed
  rw [ok_runF, wb_eq]
  have e : slots 14 [.box r, .int (P : Int), .int rds, .bl isp] = [.val (.box r), .val (.int P), .val (.int rds), .val (.bl isp), .emp, .emp, .emp, .emp, .emp, .emp, .emp, .emp, .emp, .emp] := rfl
  rw [e, ok_seqM]
  unfold wb_0
  simp only [ok_ownM, ok_lstM, ok_nilM, List.length, Nat.zero_le, true_and, seqQ_nx, Sg.st, List.set]
  rw [ok_seqM]
  refine (web_1 (isp := isp) s (by omega) (by omega) t1 t2 hc).imp ?_
  rintro f ⟨sl, g1⟩ ⟨rfl, n, n1, n2, ps, x5, rfl, s1, f1, hl, hps⟩
  have s1 : St g1 r r0 (c + 1 + n * 20) := s1
  have f1 : Fr r r0 g g1 := f1
  rw [seqQ_nx, ok_seqM]
  unfold wb_2
  rw [ok_parM, ok_pVal]
  refine mixR (i := 0) (j := 1) rfl rfl s1 (by omega) (by omega) (by omega) ?_
  intro ys g2 hy s2 f2
  simp [ok_callM, ok_rd]
  refine (draw_ok s2 (by omega) (by omega) (by omega)).imp ?_
  rintro _ ⟨_, g3⟩ ⟨_, s3, f3, z, rfl, z0, z1⟩
  have s3 : St g3 r r0 (c + 1 + n * 20 + P + 1) := s3
  have f3 : Fr r r0 g2 g3 := f3
  simp
  rw [ok_seqM]
  unfold wb_3
  have hz : (0 : Int) ≤ 1 + z := by omega
  simp [ok_slM, ok_hdN, ok_rd, ok_callM, cutI_to hz]
  refine (draw_ok s3 (by omega) (by omega) (by omega)).imp ?_
  rintro _ ⟨_, g4⟩ ⟨_, s4, f4, z', rfl, z0', z1'⟩
  have s4 : St g4 r r0 (c + 1 + n * 20 + P + 1 + 1) := s4
  have f4 : Fr r r0 g3 g4 := f4
  obtain ⟨es, hes⟩ := cut_map (f := D.int) (ns := ys) (lo := some (1 + z)) (hi := some (1 + z + 1 + z'))
  simp [hes]
  rw [← List.map_take, fold_ints, fold_ints]
  generalize hbs : List.take (1 + z).toNat ys = bs
  have hbl2 : bs.length ≤ 2 := by rw [← hbs, List.length_take]; omega
  have hbl : bs.length ≤ 10 := by omega
  have hbd : ∀ w ∈ bs, 0 ≤ w ∧ w < (P : Int) := by
    intro w hw
    rw [← hbs] at hw
    have := rngI_mem.mp (hy.mem_iff.mp (List.mem_of_mem_take hw))
    omega
  have s5 : St g4 r r0 (c + 1000) := s4.mono (by omega)
  rw [ok_seqM]
  refine (web_4 (g := g) (c := c + 1000) (P := P) (ps := ps) (bs := bs) (es := es) (by omega) (by omega) hps (by omega) hbd hbl ⟨_, _, _, [], rfl, .inl rfl, s5, ((f1.trans f2).trans f3).trans f4, by simp, by simp⟩).imp ?_
  rintro f S5 ⟨rfl, h5⟩
  rw [seqQ_nx, ok_seqM]
  refine (web_5 hbl (by omega) (by omega) h5).imp ?_
  rintro f ⟨sl, g6⟩ ⟨rfl, x4, x5, x8, x9, x11, found, rfl, h4, s6, f6, hfl, hfg⟩
  rw [seqQ_nx]
  unfold wb_6
  have s6 : St g6 r r0 (c + 1000) := s6
  have f6 : Fr r r0 g g6 := f6
  have hn : ∀ n' : Int, n' = (if isp = true then (P : Int) else (ps.length : Int)) → 1 ≤ n' ∧ n' ≤ 100 := by
    intro n' e
    cases isp
    · simp at e; omega
    · simp at e; omega
  have fin : ∀ (x3 : Bool) (x4 : Slot) (n' : Int), n' = (if isp = true then (P : Int) else (ps.length : Int)) → Ok (callM m_l_each_once (consM (rd 10) nilM) ⟨[.val (.box r), .val (.int P), .val (.int rds), .val (.bl isp), x4, x5, .val (dInts ys), .val (.int (1 + z)), x8, x9, .own (.lst (found.map dInts)), x11, .emp, .emp], g6⟩) fun d S => 2 ≤ sizeLine ∧ (endQ (WebQ g r r0 c P)) (.rt (.tup [.int n', d])) S := by
    intro x3 x4 n' e
    rw [ok_callM, ok_consM, ok_rd]
    simp only [List.getElem?_cons_succ, List.getElem?_cons_zero]
    rw [ok_nilM, fold_rows]
    have hb9 : bs.length * Tn (P - 1) ≤ 2 * Tn (P - 1) := Nat.mul_le_mul_right _ hbl2
    have hT := Tn_le (u := P - 1) (by omega)
    refine (once_ok (by omega)).imp ?_
    rintro d ⟨sl7, g7⟩ ⟨e7, ys, rfl, hnd, hsub, hle⟩
    have e7 : g7 = g6 := e7
    subst e7
    obtain ⟨k1, k2⟩ := hn n' e
    exact ⟨by omega, s6, f6, n', ys, rfl, ⟨hnd, fun row hrow => by rw [e]; exact hfg row (hsub row hrow)⟩, k1, k2, by omega⟩
  rw [ok_retM, ok_tupM, ok_consM, ok_ifM, ok_bd]
  refine ok_rdv rfl ?_
  rw [ok_asB]
  cases isp with
  | true =>
    rw [if_pos rfl]
    refine ok_rdv rfl ?_
    rw [ok_consM]
    refine (fin true x4 P rfl).imp ?_
    rintro d S ⟨h1, h2⟩
    exact ok_nilM.mpr ⟨h1, h2⟩
  | false =>
    rw [if_neg (by decide), ok_h1]
    rcases h4 with rfl | rfl
    · rw [ok_hdN]
      simp only [List.getElem?_cons_succ, List.getElem?_cons_zero]
      refine ⟨_, rfl, ?_⟩
      simp only [ok_lenF, ok_consM, List.length_map]
      refine (fin true _ ps.length rfl).imp ?_
      rintro d S ⟨h1, h2⟩
      exact ok_nilM.mpr ⟨h1, h2⟩
    · rw [ok_hdN]
      simp only [List.getElem?_cons_succ, List.getElem?_cons_zero]
      refine ⟨_, rfl, ?_⟩
      simp only [ok_lenF, ok_consM, List.length_map]
      refine (fin true _ ps.length rfl).imp ?_
      rintro d S ⟨h1, h2⟩
      exact ok_nilM.mpr ⟨h1, h2⟩
end Lw
end

section
/-! K01m: books joined, the plain part. -/
namespace Lw
open PySem L2 Mm
def shf (far : Int) (rs : List (List Int)) : List (List Int) := rs.map fun row => row.map (· + far)
theorem nodup_map {α β : Type} {f : α → β} {xs : List α} (h : xs.Nodup) (inj : ∀ a ∈ xs, ∀ b ∈ xs, f a = f b → a = b) : (xs.map f).Nodup := by
  induction xs with
  | nil => simp
  | cons x xs ih =>
    rw [List.nodup_cons] at h
    rw [List.map_cons, List.nodup_cons]
    refine ⟨fun hm => ?_, ih h.2 fun a ha b hb => inj a (List.mem_cons_of_mem _ ha) b (List.mem_cons_of_mem _ hb)⟩
    obtain ⟨y, hy, e⟩ := List.mem_map.mp hm
    have := inj y (List.mem_cons_of_mem _ hy) x (by simp) e
    subst this
    exact h.1 hy
theorem map_inj {α β : Type} {f : α → β} (inj : ∀ a b, f a = f b → a = b) : ∀ {xs ys : List α}, xs.map f = ys.map f → xs = ys
  | [], [], _ => rfl
  | [], y :: ys, h => by simp at h
  | x :: xs, [], h => by simp at h
  | x :: xs, y :: ys, h => by
    simp at h
    rw [inj _ _ h.1, map_inj inj h.2]
/-- a row of late gates -/
structure Lt (n m : Int) (row : List Int) : Prop where
  ne : row ≠ []
  nd : row.Nodup
  bd : ∀ z ∈ row, n ≤ z ∧ z < n + m
theorem shf_lt {n m : Int} {rs : List (List Int)} (h : Rws m rs) : (shf n rs).Nodup ∧ ∀ row ∈ shf n rs, Lt n m row := by
  refine ⟨nodup_map h.nd fun a _ b _ e => map_inj (fun x y e => by omega) e, fun row hr => ?_⟩
  obtain ⟨row', h1, rfl⟩ := List.mem_map.mp hr
  have hr' := h.rw row' h1
  refine ⟨by simpa using hr'.ne, nodup_map hr'.nd fun a _ b _ e => by omega, fun z hz => ?_⟩
  obtain ⟨w, hw, rfl⟩ := List.mem_map.mp hz
  have := hr'.bd w hw
  omega
theorem Lt.rw {n m : Int} {row : List Int} (h : Lt n m row) (hn : 0 ≤ n) : Rw (n + m) row := ⟨h.ne, h.nd, fun z hz => by have := h.bd z hz; omega⟩
theorem join1 {n m : Int} {rs ls : List (List Int)} (h : Rws n rs) (hn : 0 ≤ n) (hm : 0 ≤ m) (hl : ls.Nodup) (hl2 : ∀ row ∈ ls, Lt n m row) : Rws (n + m) (rs ++ ls) := by
  refine ⟨?_, fun row hr => ?_⟩
  · rw [List.nodup_append]
    refine ⟨h.nd, hl, fun a ha b hb e => ?_⟩
    subst e
    have h1 := h.rw a ha
    have h2 := hl2 a hb
    obtain ⟨z, zs, e⟩ := List.exists_cons_of_ne_nil h1.ne
    have := h1.bd z (by rw [e]; simp)
    have := h2.bd z (by rw [e]; simp)
    omega
  · rcases List.mem_append.mp hr with h1 | h1
    · exact (h.rw row h1).mono (by omega)
    · exact (hl2 row h1).rw hn
theorem ext_nodup {found news : List (List Int)} {key : List Int → List Int} {rows : List (List Int)} {row : List Int} (hf : found.Nodup) (hn : news.Nodup) (kf : ∀ w ∈ found, key w ∈ rows) (kn : ∀ w ∈ news, key w = row) (hr : row ∉ rows) : (found ++ news).Nodup := by
  rw [List.nodup_append]
  refine ⟨hf, hn, fun a ha b hb e => ?_⟩
  subst e
  have := kf a ha
  rw [kn a hb] at this
  exact hr this
/-- pre ++ tail ++ post -/
theorem mid_rw {n m : Int} {pre post tail : List Int} (hn : 0 ≤ n) (hnd : (pre ++ post).Nodup) (hbd : ∀ z ∈ pre ++ post, 0 ≤ z ∧ z < n) (ht : Lt n m tail) : Rw (n + m) (pre ++ tail ++ post) := by
  have hm0 : 0 ≤ m := by
    obtain ⟨z, zs, e⟩ := List.exists_cons_of_ne_nil ht.ne
    have := ht.bd z (by rw [e]; simp)
    omega
  rw [List.nodup_append] at hnd
  refine ⟨by simp [ht.ne], ?_, ?_⟩
  · rw [List.nodup_append, List.nodup_append]
    refine ⟨⟨hnd.1, ht.nd, fun a ha b hb e => ?_⟩, hnd.2.1, fun a ha b hb e => ?_⟩
    · have := hbd a (by simp [ha])
      have := ht.bd b hb
      omega
    · rcases List.mem_append.mp ha with h | h
      · exact hnd.2.2 a h b hb e
      · have := ht.bd a h
        have := hbd b (by simp [hb])
        omega
  · intro z hz
    rcases List.mem_append.mp hz with h | h
    · rcases List.mem_append.mp h with h | h
      · have := hbd z (by simp [h]); omega
      · have := ht.bd z h; omega
    · have := hbd z (by simp [h]); omega
def low (n : Int) (z : Int) : Bool := decide (z < n)
def hig (n : Int) (z : Int) : Bool := decide (n ≤ z)
theorem all_low {n : Int} {xs : List Int} (h : ∀ z ∈ xs, 0 ≤ z ∧ z < n) : ∀ z ∈ xs, low n z = true := fun z hz => by have := h z hz; simp [low]; omega
theorem filter_mid {n m : Int} {pre post tail : List Int} (hbd : ∀ z ∈ pre ++ post, 0 ≤ z ∧ z < n) (ht : Lt n m tail) : (pre ++ tail ++ post).filter (hig n) = tail := by
  rw [List.filter_append, List.filter_append]
  have e1 : pre.filter (hig n) = [] := by rw [List.filter_eq_nil_iff]; intro z hz; have := hbd z (by simp [hz]); simp [hig]; omega
  have e2 : post.filter (hig n) = [] := by rw [List.filter_eq_nil_iff]; intro z hz; have := hbd z (by simp [hz]); simp [hig]; omega
  have e3 : tail.filter (hig n) = tail := by rw [List.filter_eq_self]; intro z hz; have := ht.bd z hz; simp [hig]; omega
  rw [e1, e2, e3]; simp
theorem tw_all {p : Int → Bool} : ∀ {xs ys : List Int}, (∀ z ∈ xs, p z = true) → (∀ z, ys.head? = some z → p z = false) → (xs ++ ys).takeWhile p = xs ∧ (xs ++ ys).dropWhile p = ys
  | [], [], _, _ => by simp
  | [], y :: ys, _, h => by have := h y rfl; simp [List.takeWhile, List.dropWhile, this]
  | x :: xs, ys, h1, h2 => by
    have hx := h1 x (by simp)
    have ih := tw_all (xs := xs) (ys := ys) (fun z hz => h1 z (by simp [hz])) h2
    simp [List.takeWhile, List.dropWhile, hx, ih.1, ih.2]
/-- the row that something was made of, a gate being replaced -/
def key2 (n gate : Int) (w : List Int) : List Int := if w.all (low n) = true then w else w.takeWhile (low n) ++ gate :: (w.dropWhile (low n)).dropWhile (hig n)
theorem key2_low {n gate : Int} {row : List Int} (h : ∀ z ∈ row, 0 ≤ z ∧ z < n) : key2 n gate row = row := by
  unfold key2
  rw [if_pos (List.all_eq_true.mpr (all_low h))]
theorem key2_mid {n m gate : Int} {pre post tail : List Int} (hbd : ∀ z ∈ pre ++ post, 0 ≤ z ∧ z < n) (ht : Lt n m tail) : key2 n gate (pre ++ tail ++ post) = pre ++ gate :: post := by
  obtain ⟨t, ts, e⟩ := List.exists_cons_of_ne_nil ht.ne
  have htb := ht.bd t (by rw [e]; simp)
  unfold key2
  rw [if_neg (by rw [List.all_eq_true]; intro h; have := h t (by rw [e]; simp); simp [low] at this; omega)]
  have a := tw_all (p := low n) (xs := pre) (ys := tail ++ post) (fun z hz => all_low hbd z (by simp [hz])) (fun z hz => by rw [e] at hz; simp at hz; subst hz; simp [low]; omega)
  have b := tw_all (p := hig n) (xs := tail) (ys := post) (fun z hz => by have := ht.bd z hz; simp [hig]; omega) (fun z hz => by
    cases post with
    | nil => simp at hz
    | cons q qs => simp at hz; subst hz; have := hbd q (by simp); simp [hig]; omega)
  rw [List.append_assoc, a.1, a.2, b.2]
theorem key0_mid {n m : Int} {row tail : List Int} (hbd : ∀ z ∈ row, 0 ≤ z ∧ z < n) (ht : Lt n m tail) : (row ++ tail).filter (low n) = row := by
  rw [List.filter_append]
  have e1 : row.filter (low n) = row := by rw [List.filter_eq_self]; exact all_low hbd
  have e2 : tail.filter (low n) = [] := by rw [List.filter_eq_nil_iff]; intro z hz; have := ht.bd z hz; simp [low]; omega
  rw [e1, e2, List.append_nil]
theorem take_not {rs : List (List Int)} {i : Nat} {row : List Int} (h : rs.Nodup) (e : rs[i]? = some row) : row ∉ rs.take i := by
  intro hm
  obtain ⟨hi, e1⟩ := List.getElem?_eq_some_iff.mp e
  have e2 := List.take_append_drop i rs
  rw [List.drop_eq_getElem_cons hi, e1] at e2
  rw [← e2, List.nodup_append] at h
  exact h.2.2 row hm row (by simp) rfl
theorem cut_at {row : List Int} {k : Nat} {gate : Int} (h : row[k]? = some gate) : row = row.take k ++ gate :: row.drop (k + 1) := by
  obtain ⟨hi, e1⟩ := List.getElem?_eq_some_iff.mp h
  have e2 := List.take_append_drop k row
  rw [List.drop_eq_getElem_cons hi, e1] at e2
  exact e2.symm
end Lw
end

section
/-! K01n: joined. -/
namespace Lw
open PySem L2 Mm
noncomputable def jn_0 : M Fl :=
  (asgM (.tp [(.tp [(.nm 3), (.nm 4)]), (.tp [(.nm 5), (.nm 6)]), (.nm 7)]) (tupM (consM (rd 1) (consM (rd 2) (consM (callM m_l_draw (consM (rd 0) (consM (ret (.int 3)) nilM))) nilM)))))
noncomputable def jn_1 : M Fl :=
  (setM 8 (callM m_l_shifted (consM (rd 6) (consM (rd 3) nilM))))
noncomputable def jn_2 : M Fl :=
  (ifM (bopT eqM (rd 7) (ret (.int 1)))
  (retM (tupM (consM (bop addI (rd 3) (rd 5)) (consM (bd (catC (hdN 4) (hdN 8)) frzC) nilM))))
  (ret .nx))
noncomputable def jn_3 : M Fl :=
  (parM [9, 10] (pVal (callM m_l_draw (consM (rd 0) (consM (rd 3) nilM))) (pOwn (lstM nilM) pNil)))
noncomputable def jn_4 : M Fl :=
  (bd (bd (rd 4) itemsD) (forM (.nm 11)
  (seqM (setM 12 (ifM (bd (inM false (rd 9) (hdN 11)) asB) (indexM (hdN 11) (rd 9)) (negM (ret (.int 1)))))
  (ifM (bopT eqM (rd 7) (ret (.int 0)))
  (exprM (extM (plN 10) (hdE (bd (lcM (bd (rd 8) itemsD) (.nm 13) [13] yesM (bd (catC (hdN 11) (hdN 13)) frzC)) frzC))))
  (exprM (extM (plN 10) (hdE (ifM (bopT ltI (rd 12) (ret (.int 0))) (bd (lstM (consM (rd 11) nilM)) frzC) (bd (lcM (bd (rd 8) itemsD) (.nm 13) [13] yesM (bd (catC (hdE (bd (catC (hdE (slM (hdN 11) (ret none) (bd (rd 12) oint))) (hdN 13)) frzC)) (hdE (slM (hdN 11) (bd (bop addI (rd 12) (ret (.int 1))) oint) (ret none)))) frzC)) frzC)))))))))
noncomputable def jn_5 : M Fl :=
  (retM (tupM (consM (bop addI (rd 3) (rd 5)) (consM (rd 10) nilM))))
theorem jn_eq : b_l_joined = seqM jn_0 (seqM jn_1 (seqM jn_2 (seqM jn_3 (seqM jn_4 jn_5)))) := rfl
/-- the rows gone through -/
def JnI (g : G) (n m way gate : Int) (rs ls : List (List Int)) (i : Nat) (S : Sg) : Prop := ∃ (x0 x1 x2 x11 x12 : Slot) (found : List (List Int)),
  S.sl = [x0, x1, x2, .val (.int n), .val (dRows rs), .val (.int m), .val (dRows ls), .val (.int way), .val (dRows (shf n ls)), .val (.int gate), .own (.lst (found.map dInts)), x11, x12, .emp] ∧ S.g = g ∧
  found.length ≤ i * (ls.length + 1) ∧ found.Nodup ∧ (∀ w ∈ found, Rw (n + m) w) ∧ ∀ w ∈ found, (if way = 0 then w.filter (low n) else key2 n gate w) ∈ rs.take i
theorem Small.of {rs : List (List Int)} {n : Int} (h : Rws n rs) (h1 : n ≤ 10000) (h2 : rs.length ≤ 16000000) : Small rs := ⟨h2, fun row hr => by have := (h.rw row hr).len; omega⟩
theorem ok_inRow {sl : List Slot} {g : G} {i j : Nat} {z : Int} {row : List Int} {Q : Bool → Sg → Prop} (hi : sl[i]? = some (.val (.int z))) (hj : sl[j]? = some (.val (dInts row))) (q : Q (decide (z ∈ row)) ⟨sl, g⟩) : Ok (bd (inM false (rd i) (hdN j)) asB ⟨sl, g⟩) Q := by
  rw [ok_bd, ok_inM]
  refine ok_rdv hi ?_
  rw [ok_hdN, hj]
  simp only [vw_dI, onO_some]
  rw [ok_inI, ok_asB]
  exact q
theorem take_snoc {rs : List (List Int)} {i : Nat} {row : List Int} (e : rs[i]? = some row) : rs.take (i + 1) = rs.take i ++ [row] := by
  rw [List.take_add_one, e]; rfl
theorem join_loop {g : G} {n m way gate : Int} {rs ls : List (List Int)} {S : Sg} (hn : 1 ≤ n) (hn2 : n ≤ 100) (hm : 1 ≤ m) (hm2 : m ≤ 100) (hrs : Rws n rs) (hls : Rws m ls) (hrl : rs.length ≤ 2000) (hll : ls.length ≤ 2000)
    (h0 : JnI g n m way gate rs ls 0 S) : Ok (jn_4 S) fun f S => f = Fl.nx ∧ JnI g n m way gate rs ls rs.length S := by
  have hsl := sizeLine_eq
  obtain ⟨sl, g0⟩ := S
  have h00 := h0
  obtain ⟨x0, x1, x2, x11, x12, found, rfl, rfl, _⟩ := h0
  obtain ⟨hsn, hsl2⟩ := shf_lt (n := n) hls
  have Lt.len : ∀ {t : List Int}, Lt n m t → (t.length : Int) ≤ 200 := fun h => by have := (h.rw (by omega)).len; omega
  have hshl : (shf n ls).length = ls.length := by unfold shf; rw [List.length_map]
  unfold jn_4
  simp only [ok_bd]
  refine ok_rdv rfl ?_
  rw [ok_itemsD, vwD_dR, onO_some]
  refine ok_forM (JnI g0 n m way gate rs ls) (fun _ _ _ _ => vwD_dR) h00 ?_ ?_
  · rintro i d ⟨sl, g1⟩ hd ⟨x0, x1, x2, x11, x12, found, rfl, rfl, hfl, hnd, hrw, hkey⟩
    obtain ⟨row, hr, rfl, hm', hi⟩ := rows_get hd
    have hrow := hrs.rw row hm'
    have hlen := hrow.len
    have htn := take_not hrs.nd hr
    have hts := take_snoc hr
    have hmul : i * (ls.length + 1) ≤ 2000 * 2001 := Nat.mul_le_mul (by omega) (by omega)
    have e9 : (i + 1) * (ls.length + 1) = i * (ls.length + 1) + (ls.length + 1) := Nat.succ_mul i _
    refine ⟨_, asg_nm, ?_⟩
    -- what is added
    have fin : ∀ (news : List (List Int)) (x12 : Slot), news.length ≤ ls.length + 1 → news.Nodup → (∀ w ∈ news, Rw (n + m) w) → (∀ w ∈ news, (if way = 0 then w.filter (low n) else key2 n gate w) = row) →
        (found.map dInts).length + (news.map dInts).length ≤ sizeLine ∧ JnI g1 n m way gate rs ls (i + 1) ⟨[x0, x1, x2, .val (.int n), .val (dRows rs), .val (.int m), .val (dRows ls), .val (.int way), .val (dRows (shf n ls)), .val (.int gate), .own (.lst (found.map dInts ++ news.map dInts)), .val (dInts row), x12, .emp], g1⟩ := by
      intro news x12 hl1 hnd1 hrw1 hk1
      refine ⟨by rw [List.length_map, List.length_map]; omega, x0, x1, x2, _, x12, found ++ news, by rw [List.map_append], rfl, by rw [List.length_append]; omega, ?_, ?_, ?_⟩
      · exact ext_nodup (key := fun w => if way = 0 then w.filter (low n) else key2 n gate w) hnd hnd1 hkey hk1 htn
      · intro w hw
        rcases List.mem_append.mp hw with h | h
        · exact hrw w h
        · exact hrw1 w h
      · intro w hw
        rw [hts]
        rcases List.mem_append.mp hw with h | h
        · exact List.mem_append_left _ (hkey w h)
        · rw [hk1 w h]; simp
    rw [ok_seqM, ok_setM, ok_ifM]
    refine ok_inRow (row := row) rfl rfl ?_
    have put : ∀ (news : List (List Int)) (x12 : Slot), (List.length (found.map dInts) + (news.map dInts).length ≤ sizeLine ∧ JnI g1 n m way gate rs ls (i + 1) ⟨[x0, x1, x2, .val (.int n), .val (dRows rs), .val (.int m), .val (dRows ls), .val (.int way), .val (dRows (shf n ls)), .val (.int gate), .own (.lst (found.map dInts ++ news.map dInts)), .val (dInts row), x12, .emp], g1⟩) →
        onO (vwH ⟨[x0, x1, x2, .val (.int n), .val (dRows rs), .val (.int m), .val (dRows ls), .val (.int way), .val (dRows (shf n ls)), .val (.int gate), .own (.lst (found.map dInts)), .val (dInts row), x12, .emp], g1⟩ (.d (dRows news))) fun v => onL (getP (.sl 10) ⟨[x0, x1, x2, .val (.int n), .val (dRows rs), .val (.int m), .val (dRows ls), .val (.int way), .val (dRows (shf n ls)), .val (.int gate), .own (.lst (found.map dInts)), .val (dInts row), x12, .emp], g1⟩) fun xs => (v.1 = true ∧ xs.length + v.2.length ≤ sizeLine) ∧
          JnI g1 n m way gate rs ls (i + 1) (putP (.sl 10) (.lst (xs ++ v.2)) ⟨[x0, x1, x2, .val (.int n), .val (dRows rs), .val (.int m), .val (dRows ls), .val (.int way), .val (dRows (shf n ls)), .val (.int gate), .own (.lst (found.map dInts)), .val (dInts row), x12, .emp], g1⟩) := by
      intro news x12 ⟨h1, h2⟩
      rw [vw_dR, onO_some]
      exact ⟨_, rfl, ⟨rfl, h1⟩, h2⟩
    by_cases hw : way = 0
    · subst hw
      have step : ∀ x12 : Slot, Ok (ifM (bopT eqM (rd 7) (ret (.int 0)))
            (exprM (extM (plN 10) (hdE (bd (lcM (bd (rd 8) itemsD) (.nm 13) [13] yesM (bd (catC (hdN 11) (hdN 13)) frzC)) frzC))))
            (exprM (extM (plN 10) (hdE (ifM (bopT ltI (rd 12) (ret (.int 0))) (bd (lstM (consM (rd 11) nilM)) frzC) (bd (lcM (bd (rd 8) itemsD) (.nm 13) [13] yesM (bd (catC (hdE (bd (catC (hdE (slM (hdN 11) (ret none) (bd (rd 12) oint))) (hdN 13)) frzC)) (hdE (slM (hdN 11) (bd (bop addI (rd 12) (ret (.int 1))) oint) (ret none)))) frzC)) frzC)))))
            ⟨[x0, x1, x2, .val (.int n), .val (dRows rs), .val (.int m), .val (dRows ls), .val (.int 0), .val (dRows (shf n ls)), .val (.int gate), .own (.lst (found.map dInts)), .val (dInts row), x12, .emp], g1⟩) fun f S => f = Fl.nx ∧ JnI g1 n m 0 gate rs ls (i + 1) S := by
        intro x12
        rw [ok_ifM, ok_bopT]
        refine ok_rdv rfl ?_
        rw [ok_ret, ok_eqI, ok_asB, if_pos (by simp), ok_exprM, ok_extM, ok_plN]
        refine ⟨_, rfl, ?_⟩
        rw [ok_hdE, ok_bd]
        refine ok_lcMap (f := upR fun tail => row ++ tail) (by simp) rfl (src_items rfl vwD_dR) vwD_dR (by rw [List.length_map]; omega) ?_ ?_
        · intro d hd P hP
          obtain ⟨tail, ht, rfl⟩ := mem_rows hd
          have htl := Lt.len (hsl2 tail ht)
          rw [upR_ints] at hP
          simp [ok_catC, ok_hdN]
          rw [fold_app, fold_ints]
          exact ⟨by omega, hP⟩
        · rw [map_rows (h := fun tail => row ++ tail) fun row _ => upR_ints, ok_frzR]
          have h9 := put ((shf n ls).map fun tail => row ++ tail) x12 (fin _ x12 (by rw [List.length_map]; omega) (nodup_map hsn fun a ha b hb e => List.append_cancel_left e) (fun w hw => by
            obtain ⟨tail, ht, rfl⟩ := List.mem_map.mp hw
            have := mid_rw (pre := row) (post := []) (by omega) (by simpa using hrow.nd) (by simpa using hrow.bd) (hsl2 tail ht)
            simpa using this) (fun w hw => by
            obtain ⟨tail, ht, rfl⟩ := List.mem_map.mp hw
            rw [if_pos rfl]
            exact key0_mid hrow.bd (hsl2 tail ht)))
          obtain ⟨v, hv, xs, hx, h1, h2⟩ := h9
          exact ⟨v, hv, xs, hx, h1, rfl, h2⟩
      have done : ∀ (x12 : Slot) (Q : Fl → Sg → Prop), (∀ S, JnI g1 n m 0 gate rs ls (i + 1) S → Q Fl.nx S) → Ok _ Q := fun x12 Q hQ => (step x12).imp fun f S ⟨e, h⟩ => by subst e; exact hQ S h
      by_cases hg : gate ∈ row
      · obtain ⟨k, hk, hk1, hk2⟩ := findIdx_in hg
        rw [if_pos (by simpa using hg)]
        simp [ok_indexM, ok_hdN, ok_rd, ok_indexI hk]
        exact done _ _ fun S h => h
      · rw [if_neg (by simpa using hg)]
        simp [ok_negM]
        exact done _ _ fun S h => h
    · by_cases hg : gate ∈ row
      · obtain ⟨k, hk, hk1, hk2⟩ := findIdx_in hg
        have hcut := cut_at hk2
        rw [if_pos (by simpa using hg)]
        simp [ok_indexM, ok_hdN, ok_rd, ok_indexI hk, ok_ifM, hw]
        rw [ok_extM, ok_plN]
        refine ⟨_, rfl, ?_⟩
        rw [ok_hdE, ok_ifM, ok_bopT]
        refine ok_rdv rfl ?_
        rw [ok_ret, ok_ltI, ok_asB, if_neg (by simp), ok_bd]
        have hb : ∀ z ∈ row.take k ++ row.drop (k + 1), 0 ≤ z ∧ z < n := fun z hz => by
          rcases List.mem_append.mp hz with h | h
          · exact hrow.bd z (List.mem_of_mem_take h)
          · exact hrow.bd z (List.mem_of_mem_drop h)
        have hnp : (row.take k ++ row.drop (k + 1)).Nodup := by
          have := hrow.nd
          rw [hcut] at this
          exact this.sublist (List.Sublist.append_left (List.sublist_cons_self _ _) _)
        have k0 : (0 : Int) ≤ k := by omega
        have k1 : (0 : Int) ≤ (k : Int) + 1 := by omega
        refine ok_lcMap (f := upR fun tail => row.take k ++ tail ++ row.drop (k + 1)) (by simp) rfl (src_items rfl vwD_dR) vwD_dR (by rw [List.length_map]; omega) ?_ ?_
        · intro d hd P hP
          obtain ⟨tail, ht, rfl⟩ := mem_rows hd
          have htl := Lt.len (hsl2 tail ht)
          rw [upR_ints] at hP
          simp [hsl, ok_catC, ok_hdN, ok_slM, ok_rd, cutI_to k0, cutI_from k1]
          rw [← List.map_take, ← List.map_drop, fold_app, fold_app, fold_ints]
          refine ⟨by omega, by omega, ?_⟩
          rw [← List.append_assoc]
          exact hP
        · rw [map_rows (h := fun tail => row.take k ++ tail ++ row.drop (k + 1)) fun row _ => upR_ints, ok_frzR]
          exact put ((shf n ls).map fun tail => row.take k ++ tail ++ row.drop (k + 1)) _ (fin _ _ (by rw [List.length_map]; omega) (nodup_map hsn fun a ha b hb e => by
            rw [List.append_assoc, List.append_assoc] at e
            exact List.append_cancel_right (List.append_cancel_left e)) (fun w hw => by
            obtain ⟨tail, ht, rfl⟩ := List.mem_map.mp hw
            exact mid_rw (by omega) hnp hb (hsl2 tail ht)) (fun w hw' => by
            obtain ⟨tail, ht, rfl⟩ := List.mem_map.mp hw'
            rw [if_neg hw, key2_mid hb (hsl2 tail ht)]
            exact hcut.symm))
      · rw [if_neg (by simpa using hg)]
        simp [ok_negM, ok_ifM, ok_rd, hw]
        rw [ok_extM, ok_plN]
        refine ⟨_, rfl, ?_⟩
        rw [ok_hdE, ok_ifM, ok_bopT]
        refine ok_rdv rfl ?_
        rw [ok_ret, ok_ltI, ok_asB, if_pos (by simp), ok_bd, ok_lstM, ok_consM]
        refine ok_rdv rfl ?_
        rw [ok_nilM, ok_frzC, fold_r1]
        refine ⟨by simp; omega, ?_⟩
        exact put [row] _ (fin [row] _ (by simp) (by simp) (fun w hw => by simp at hw; subst hw; exact hrow.mono (by omega)) (fun w hw' => by simp at hw'; subst hw'; rw [if_neg hw]; exact key2_low hrow.bd))
  · intro S h
    have h : JnI g0 n m way gate rs ls (rs.map dInts).length S := h
    rw [List.length_map] at h
    exact ⟨rfl, h⟩

def JoinQ (g : G) (r r0 : Nat) (c : Int) (d : D) (S : Sg) : Prop := St S.g r r0 (c + 1000) ∧ Fr r r0 g S.g ∧ ∃ n rs, d = .tup [.int n, dRows rs] ∧ Rws n rs ∧ 1 ≤ n ∧ n ≤ 200 ∧ rs.length ≤ 5000000
theorem joined_ok {g : G} {r r0 : Nat} {c n m : Int} {rs ls : List (List Int)} (s : St g r r0 c) (hc : c + 1000 ≤ 100000000000000) (hn : 1 ≤ n) (hn2 : n ≤ 100) (hm : 1 ≤ m) (hm2 : m ≤ 100) (hrs : Rws n rs) (hls : Rws m ls) (hrl : rs.length ≤ 2000) (hll : ls.length ≤ 2000) :
    Ok (m_l_joined [.box r, .tup [.int n, dRows rs], .tup [.int m, dRows ls]] ⟨[], g⟩) (JoinQ g r r0 c) := by
  have hsl := sizeLine_eq
  obtain ⟨hsn, hsl2⟩ := shf_lt (n := n) hls
  have hshl : (shf n ls).length = ls.length := by unfold shf; rw [List.length_map]
  unfold m_l_joined
  rw [ok_runF, jn_eq]
  have e : slots 14 [.box r, .tup [.int n, dRows rs], .tup [.int m, dRows ls]] = [.val (.box r), .val (.tup [.int n, dRows rs]), .val (.tup [.int m, dRows ls]), .emp, .emp, .emp, .emp, .emp, .emp, .emp, .emp, .emp, .emp, .emp] := rfl
  rw [e, ok_seqM]
  unfold jn_0
  simp [hsl, ok_rd, ok_callM]
  refine (draw_ok s (by omega) (by omega) (by omega)).imp ?_
  rintro _ ⟨_, g1⟩ ⟨_, s1, f1, z, rfl, z0, z1⟩
  have s1 : St g1 r r0 (c + 1) := s1
  have f1 : Fr r r0 g g1 := f1
  simp [asg, asgs]
  rw [ok_seqM]
  unfold jn_1
  simp [ok_rd, ok_callM]
  have hsh : Ok (m_l_shifted [dRows ls, .int n] ⟨[], g1⟩) fun d S => S.g = g1 ∧ d = dRows (shf n ls) := shifted_ok (far := n) (Small.of hls (by omega) (by omega))
  refine hsh.imp ?_
  rintro _ ⟨_, g2⟩ ⟨e2, rfl⟩
  have e2 : g2 = g1 := e2
  subst e2
  simp
  rw [ok_seqM]
  unfold jn_2
  simp [ok_rd, ok_ifM]
  split
  · simp [hsl, ok_catC, ok_hdN, ok_rd]
    rw [fold_app, fold_rows]
    refine ⟨by omega, s1.mono (by omega), f1, n + m, rs ++ shf n ls, rfl, join1 hrs (by omega) (by omega) hsn hsl2, by omega, by omega, by rw [List.length_append]; omega⟩
  · rw [ok_seqM]
    unfold jn_3
    simp [ok_rd, ok_callM]
    refine (draw_ok s1 (by omega) hn (by omega)).imp ?_
    rintro _ ⟨_, g3⟩ ⟨_, s3, f3, z', rfl, z0', z1'⟩
    have s3 : St g3 r r0 (c + 1 + 1) := s3
    have f3 : Fr r r0 g2 g3 := f3
    simp
    rw [ok_seqM]
    refine (join_loop (g := g3) (n := n) (m := m) (way := z) (gate := z') (rs := rs) (ls := ls) hn hn2 hm hm2 hrs hls hrl hll ⟨_, _, _, _, _, [], rfl, rfl, by simp, by simp, by simp, by simp⟩).imp ?_
    rintro f ⟨sl, g4⟩ ⟨rfl, x0, x1, x2, x11, x12, found, rfl, rfl, hfl, hnd, hrw, hkey⟩
    have hmul : rs.length * (ls.length + 1) ≤ 2000 * 2001 := Nat.mul_le_mul (by omega) (by omega)
    rw [seqQ_nx]
    unfold jn_5
    simp [hsl, ok_rd]
    exact ⟨s3.mono (by omega), f1.trans f3, n + m, found, rfl, ⟨hnd, hrw⟩, by omega, by omega, by omega⟩
end Lw
end

section
/-! K01o: drawn books. -/
namespace Lw
open PySem L2 Mm
noncomputable def ft_0 : M Fl :=
  (setM 3 (tupM (consM (ret (.int 2)) (consM (bd (lstM (consM (bd (lstM (consM (ret (.int 0)) (consM (ret (.int 1)) nilM))) frzC) nilM)) frzC) nilM))))
noncomputable def ft_1 : M Fl :=
  (bd (bd (ret (.int 6)) rng1) (forM (.nm 4)
  (seqM (setM 5 (bop eqM (callM m_l_draw (consM (rd 0) (consM (ret (.int 3)) nilM))) (ret (.int 0))))
  (seqM (setM 6 (callM m_l_drawn_book (consM (rd 0) (consM (rd 5) nilM))))
  (seqM (ifM (bd (rd 5) asB)
  (setM 6 (callM m_l_joined (consM (rd 0) (consM (rd 6) (consM (callM m_l_drawn_book (consM (rd 0) (consM (ret (.bl true)) nilM))) nilM)))))
  (ret .nx))
  (seqM (ifM (andM (bopT leI (ixM (hdN 6) (ret (.int 0))) (rd 1)) (bd (chain2 leI leI (h1 (hdE (ixM (hdN 3) (ret (.int 1)))) lenF) (h1 (hdE (ixM (hdN 6) (ret (.int 1)))) lenF) (rd 2)) asB))
  (setM 3 (rd 6))
  (ret .nx))
  (ifM (andM (bopT gtI (rd 4) (ret (.int 0))) (bopT gtI (h1 (hdE (ixM (hdN 3) (ret (.int 1)))) lenF) (bop addI (ret (.int 2)) (callM m_l_draw (consM (rd 0) (consM (ret (.int 4)) nilM))))))
  (retM (rd 3))
  (ret .nx))))))))
noncomputable def ft_2 : M Fl :=
  (retM (rd 3))
theorem ft_eq : b_l_fitting = seqM ft_0 (seqM ft_1 (ft_2)) := rfl
noncomputable def bk_0 : M Fl :=
  (asgM (.tp [(.nm 3), (.nm 4)]) (callM m_l_fitting (consM (rd 0) (consM (rd 1) (consM (rd 2) nilM)))))
noncomputable def bk_1 : M Fl :=
  (setM 3 (v2 (rd 1) (bop addI (rd 3) (callM m_l_draw (consM (rd 0) (consM (ret (.int 2)) nilM)))) min2F))
noncomputable def bk_2 : M Fl :=
  (setM 5 (bd (callM m_l_mixed (consM (rd 0) (consM (bd (bd (rd 3) rngC1) frzC) nilM))) frzD))
noncomputable def bk_3 : M Fl :=
  (setM 7 (callM m_l_mixed (consM (rd 0) (consM (bd (lcM (bd (rd 4) itemsD) (.nm 6) [6] yesM (bd (lcM (bd (rd 6) itemsD) (.nm 9) [9] yesM (ixM (hdN 5) (rd 9))) frzC)) frzC) nilM))))
noncomputable def bk_4 : M Fl :=
  (bd (bd (callM m_l_draw (consM (rd 0) (consM (ret (.int 4)) nilM))) rng1) (forM (.nm 8)
  (seqM (setM 6 (slM (hdE (bd (callM m_l_mixed (consM (rd 0) (consM (bd (bd (rd 3) rngC1) frzC) nilM))) frzD)) (ret none) (bd (bop addI (ret (.int 1)) (callM m_l_draw (consM (rd 0) (consM (rd 3) nilM)))) oint)))
  (ifM (andM (bd (inM true (rd 6) (hdN 7)) asB) (andM (bopT ltI (h1 (hdN 7) lenF) (rd 2)) (isNT (callM m_l_lack (consM (bd (catC (hdN 7) (hdE (bd (lstM (consM (rd 6) nilM)) frzC))) frzC) nilM)))))
  (exprM (mutM appF (plN 7) (consM (rd 6) nilM)))
  (ret .nx)))))
noncomputable def bk_5 : M Fl :=
  (retM (tupM (consM (rd 3) (consM (bd (rd 7) frzD) nilM))))
theorem bk_eq : b_l_book = seqM bk_0 (seqM bk_1 (seqM bk_2 (seqM bk_3 (seqM bk_4 (bk_5))))) := rfl
def BkQ (g : G) (r r0 : Nat) (c : Int) (K : Nat) (d : D) (S : Sg) : Prop := St S.g r r0 (c + 2000) ∧ Fr r r0 g S.g ∧ ∃ n rs, d = .tup [.int n, dRows rs] ∧ Rws n rs ∧ 1 ≤ n ∧ n ≤ 100 ∧ rs.length ≤ K
theorem drawn_book_ok {g : G} {r r0 : Nat} {c : Int} {small : Bool} (s : St g r r0 c) (hc : c + 2000 ≤ 100000000000000) :
    Ok (m_l_drawn_book [.box r, .bl small] ⟨[], g⟩) (BkQ g r r0 c (if small = true then 2000 else 2000000)) := by
  have hsl := sizeLine_eq
  unfold m_l_drawn_book
  rw [ok_runF]
  unfold b_l_drawn_book
  have e : slots 3 [.box r, .bl small] = [.val (.box r), .val (.bl small), .emp] := rfl
  rw [e]
  simp [ok_seqM, ok_rd, ok_callM, ok_ifM]
  refine (draw_ok s (by omega) (by omega) (by omega)).imp ?_
  rintro _ ⟨_, g1⟩ ⟨_, s1, f1, z, rfl, z0, z1⟩
  have s1 : St g1 r r0 (c + 1) := s1
  have f1 : Fr r r0 g g1 := f1
  simp [ok_rd]
  have lp : ∀ (th top : Int) (sl : List Slot) (g2 : G) (K : Nat), 1 ≤ th → th ≤ 6 → 2 ≤ top → top ≤ 3 → 1000 ≤ K → St g2 r r0 (c + 1 + 1) → Fr r r0 g1 g2 → Ok (m_l_leaped [.box r, .int th, .int top] ⟨[], g2⟩) fun d S2 => BkQ g r r0 c K d ⟨[], S2.g⟩ := by
    intro th top sl g2 K h1 h2 h3 h4 hK s2 f2
    refine (leaped_ok s2 h1 h2 h3 h4 (by omega)).imp ?_
    rintro d ⟨_, g3⟩ ⟨s3, f3, n, rs, rfl, h5, h6, h7, h8⟩
    exact ⟨St.mono s3 (by omega), (f1.trans f2).trans f3, n, rs, rfl, h5, h6, h7, by omega⟩
  have wb : ∀ (P rds : Int) (isp : Bool) (g2 : G) (K : Nat), 2 ≤ P → P ≤ 7 → 2 ≤ rds → rds ≤ 9 → 2 * Tn (P.toNat - 1) ≤ K → St g2 r r0 (c + 1 + 1) → Fr r r0 g1 g2 → Ok (m_l_webbed [.box r, .int P, .int rds, .bl isp] ⟨[], g2⟩) fun d S2 => BkQ g r r0 c K d ⟨[], S2.g⟩ := by
    intro P rds isp g2 K h1 h2 h3 h4 hK s2 f2
    refine (webbed_ok (isp := isp) s2 h1 h2 h3 h4 (by omega)).imp ?_
    rintro d ⟨_, g3⟩ ⟨s3, f3, n, rs, rfl, h5, h6, h7, h8⟩
    exact ⟨St.mono s3 (by omega), (f1.trans f2).trans f3, n, rs, rfl, h5, h6, h7, by omega⟩
  by_cases hz : z < 2
  · cases small with
    | true =>
      simp [hz, ok_rd, ok_callM]
      refine (draw_ok s1 (by omega) (by omega) (by omega)).imp ?_
      rintro _ ⟨_, g2⟩ ⟨_, s2, f2, z', rfl, z0', z1'⟩
      simp [ok_rd]
      refine lp _ _ [] g2 _ ?_ ?_ ?_ ?_ ?_ s2 f2 <;> omega
    | false =>
      simp [hz, ok_rd, ok_callM]
      refine (draw_ok s1 (by omega) (by omega) (by omega)).imp ?_
      rintro _ ⟨_, g2⟩ ⟨_, s2, f2, z', rfl, z0', z1'⟩
      simp [ok_rd]
      refine lp _ _ [] g2 _ ?_ ?_ ?_ ?_ ?_ s2 f2 <;> omega
  · cases small with
    | true =>
      simp [hz, ok_rd, ok_callM]
      refine (draw_ok s1 (by omega) (by omega) (by omega)).imp ?_
      rintro _ ⟨_, g2⟩ ⟨_, s2, f2, z', rfl, z0', z1'⟩
      simp [ok_rd]
      refine wb _ _ _ g2 _ ?_ ?_ ?_ ?_ ?_ s2 f2
      · omega
      · omega
      · omega
      · omega
      · rcases (by omega : z' = 0 ∨ z' = 1) with rfl | rfl <;> decide
    | false =>
      simp [hz, ok_rd, ok_callM]
      refine (draw_ok s1 (by omega) (by omega) (by omega)).imp ?_
      rintro _ ⟨_, g2⟩ ⟨_, s2, f2, z', rfl, z0', z1'⟩
      simp [ok_rd]
      refine wb _ _ _ g2 _ ?_ ?_ ?_ ?_ ?_ s2 f2
      · omega
      · omega
      · omega
      · omega
      · rcases (by omega : z' = 0 ∨ z' = 1 ∨ z' = 2 ∨ z' = 3) with rfl | rfl | rfl | rfl <;> decide

theorem at2_0 {a b : D} : atI [a, b] 0 = some a := rfl
theorem at2_1 {a b : D} : atI [a, b] 1 = some b := rfl
def FtI (g : G) (r r0 : Nat) (c G' W : Int) (i : Nat) (S : Sg) : Prop := ∃ (n : Int) (rs : List (List Int)) (x4 x5 x6 : Slot), S.sl = [.val (.box r), .val (.int G'), .val (.int W), .val (.tup [.int n, dRows rs]), x4, x5, x6] ∧ St S.g r r0 (c + i * 10000) ∧ Fr r r0 g S.g ∧
  Rws n rs ∧ 1 ≤ n ∧ n ≤ G' ∧ 1 ≤ rs.length ∧ (rs.length : Int) ≤ W
def FtQ (g : G) (r r0 : Nat) (c G' W : Int) (d : D) (S : Sg) : Prop := St S.g r r0 (c + 60000) ∧ Fr r r0 g S.g ∧ ∃ n rs, d = .tup [.int n, dRows rs] ∧ Rws n rs ∧ 1 ≤ n ∧ n ≤ G' ∧ 1 ≤ rs.length ∧ (rs.length : Int) ≤ W
def FtF (g : G) (r r0 : Nat) (c G' W : Int) (f : Fl) (S : Sg) : Prop := match f with | .nx => FtI g r r0 c G' W 6 S | .rt d => FtQ g r r0 c G' W d S | _ => False
theorem ft_tail {g0 g : G} {r r0 : Nat} {c G' W n m : Int} {rs ts : List (List Int)} {i : Nat} {x5 : Slot} (hi : i < 6) (hc : c + 60000 ≤ 100000000000000) (s : St g r r0 (c + i * 10000 + 9000)) (f : Fr r r0 g0 g) (hr : Rws n rs) (k1 : 1 ≤ n) (k2 : n ≤ G') (k3 : 1 ≤ rs.length) (k4 : (rs.length : Int) ≤ W) (ht : Rws m ts) (k5 : 1 ≤ m) :
    Ok ((seqM (ifM (andM (bopT leI (ixM (hdN 6) (ret (.int 0))) (rd 1)) (bd (chain2 leI leI (h1 (hdE (ixM (hdN 3) (ret (.int 1)))) lenF) (h1 (hdE (ixM (hdN 6) (ret (.int 1)))) lenF) (rd 2)) asB))
  (setM 3 (rd 6))
  (ret .nx))
  (ifM (andM (bopT gtI (rd 4) (ret (.int 0))) (bopT gtI (h1 (hdE (ixM (hdN 3) (ret (.int 1)))) lenF) (bop addI (ret (.int 2)) (callM m_l_draw (consM (rd 0) (consM (ret (.int 4)) nilM))))))
  (retM (rd 3))
  (ret .nx))) ⟨[.val (.box r), .val (.int G'), .val (.int W), .val (.tup [.int n, dRows rs]), .val (.int i), x5, .val (.tup [.int m, dRows ts])], g⟩) fun f S => match f with | .nx => FtI g0 r r0 c G' W (i + 1) S | .rt d => FtQ g0 r r0 c G' W d S | _ => False := by
  have last : ∀ (n : Int) (rs : List (List Int)), Rws n rs → 1 ≤ n → n ≤ G' → 1 ≤ rs.length → (rs.length : Int) ≤ W → Ok ((ifM (andM (bopT gtI (rd 4) (ret (.int 0))) (bopT gtI (h1 (hdE (ixM (hdN 3) (ret (.int 1)))) lenF) (bop addI (ret (.int 2)) (callM m_l_draw (consM (rd 0) (consM (ret (.int 4)) nilM))))))
  (retM (rd 3))
  (ret .nx)) ⟨[.val (.box r), .val (.int G'), .val (.int W), .val (.tup [.int n, dRows rs]), .val (.int i), x5, .val (.tup [.int m, dRows ts])], g⟩) fun f S => match f with | .nx => FtI g0 r r0 c G' W (i + 1) S | .rt d => FtQ g0 r r0 c G' W d S | _ => False := by
    intro n rs hr k1 k2 k3 k4
    simp [ok_ifM, ok_andM, ok_rd, ok_ixM, ok_hdN, ok_ixPI, at2_1, ok_callM]
    split
    · refine (draw_ok s (by omega) (by omega) (by omega)).imp ?_
      rintro _ ⟨_, g2⟩ ⟨_, s2, f2, z', rfl, z0', z1'⟩
      simp [ok_rd]
      split
      · exact ⟨St.mono s2 (by omega), f.trans f2, n, rs, rfl, hr, k1, k2, k3, k4⟩
      · exact ⟨n, rs, _, _, _, rfl, St.mono s2 (by omega), f.trans f2, hr, k1, k2, k3, k4⟩
    · exact ⟨n, rs, _, _, _, rfl, s.mono (by omega), f, hr, k1, k2, k3, k4⟩
  rw [ok_seqM]
  have a : Rws n rs ∧ 1 ≤ n ∧ n ≤ G' ∧ 1 ≤ rs.length ∧ (rs.length : Int) ≤ W := ⟨hr, k1, k2, k3, k4⟩
  refine Ok.imp (Q := fun f S => f = Fl.nx ∧ ∃ n rs, (Rws n rs ∧ 1 ≤ n ∧ n ≤ G' ∧ 1 ≤ rs.length ∧ (rs.length : Int) ≤ W) ∧ S = ⟨[.val (.box r), .val (.int G'), .val (.int W), .val (.tup [.int n, dRows rs]), .val (.int i), x5, .val (.tup [.int m, dRows ts])], g⟩) ?_ ?_
  · simp only [ok_ifM, ok_andM, ok_rd, ok_ixM, ok_hdN, ok_ixPI, at2_0, at2_1, ok_chain2, ok_bopT, ok_bd, List.getElem?_cons_succ, List.getElem?_cons_zero, ok_ret, vw_tup, onO_some, ok_leI, ok_asB, ok_h1, ok_hdE, vw_dR, ok_lenF, List.length_map, onB_bl, decide_eq_true_eq, ok_setM]
    by_cases c1 : m ≤ G'
    · by_cases c2 : (rs.length : Int) ≤ ts.length
      · by_cases c3 : (ts.length : Int) ≤ W
        · simp only [if_pos c1, if_pos c2, c3, decide_true, if_true]
          exact ⟨trivial, m, ts, ⟨ht, k5, c1, by omega, c3⟩, rfl⟩
        · simp only [if_pos c1, if_pos c2, c3, decide_false, Bool.false_eq_true, if_false]
          exact ⟨trivial, n, rs, a, rfl⟩
      · simp only [if_pos c1, if_neg c2, Bool.false_eq_true, if_false]
        exact ⟨trivial, n, rs, a, rfl⟩
    · simp only [if_neg c1, Bool.false_eq_true, if_false]
      exact ⟨trivial, n, rs, a, rfl⟩
  · rintro f S ⟨rfl, n, rs, ⟨hr, k1, k2, k3, k4⟩, rfl⟩
    rw [seqQ_nx]
    exact last n rs hr k1 k2 k3 k4
theorem ft_turn {g0 g : G} {r r0 : Nat} {c G' W n : Int} {rs : List (List Int)} {i : Nat} {x5 x6 : Slot} (hi : i < 6) (hc : c + 60000 ≤ 100000000000000) (s : St g r r0 (c + i * 10000)) (f : Fr r r0 g0 g) (hr : Rws n rs) (k1 : 1 ≤ n) (k2 : n ≤ G') (k3 : 1 ≤ rs.length) (k4 : (rs.length : Int) ≤ W) :
    Ok ((seqM (setM 5 (bop eqM (callM m_l_draw (consM (rd 0) (consM (ret (.int 3)) nilM))) (ret (.int 0))))
  (seqM (setM 6 (callM m_l_drawn_book (consM (rd 0) (consM (rd 5) nilM))))
  (seqM (ifM (bd (rd 5) asB)
  (setM 6 (callM m_l_joined (consM (rd 0) (consM (rd 6) (consM (callM m_l_drawn_book (consM (rd 0) (consM (ret (.bl true)) nilM))) nilM)))))
  (ret .nx))
  (seqM (ifM (andM (bopT leI (ixM (hdN 6) (ret (.int 0))) (rd 1)) (bd (chain2 leI leI (h1 (hdE (ixM (hdN 3) (ret (.int 1)))) lenF) (h1 (hdE (ixM (hdN 6) (ret (.int 1)))) lenF) (rd 2)) asB))
  (setM 3 (rd 6))
  (ret .nx))
  (ifM (andM (bopT gtI (rd 4) (ret (.int 0))) (bopT gtI (h1 (hdE (ixM (hdN 3) (ret (.int 1)))) lenF) (bop addI (ret (.int 2)) (callM m_l_draw (consM (rd 0) (consM (ret (.int 4)) nilM))))))
  (retM (rd 3))
  (ret .nx)))))) ⟨[.val (.box r), .val (.int G'), .val (.int W), .val (.tup [.int n, dRows rs]), .val (.int i), x5, x6], g⟩) fun f S => match f with | .nx => FtI g0 r r0 c G' W (i + 1) S | .rt d => FtQ g0 r r0 c G' W d S | _ => False := by
  rw [ok_seqM, ok_setM, ok_bop, ok_callM, ok_consM]
  refine ok_rdv rfl ?_
  simp only [ok_consM, ok_ret, ok_nilM]
  refine (draw_ok s (by omega) (by omega) (by omega)).imp ?_
  rintro _ ⟨_, g1⟩ ⟨_, s1, f1, z, rfl, z0, z1⟩
  have s1 : St g1 r r0 (c + i * 10000 + 1) := s1
  have f1 : Fr r r0 g g1 := f1
  rw [ok_eqI, seqQ_nx, ok_seqM, ok_setM, ok_callM, ok_consM]
  refine ok_rdv rfl ?_
  rw [ok_consM]
  refine ok_rdv rfl ?_
  rw [ok_nilM]
  refine (drawn_book_ok (small := decide (z = 0)) s1 (by omega)).imp ?_
  rintro _ ⟨_, g2⟩ ⟨s2, f2, m, ts, rfl, ht, m1, m2, hl⟩
  have s2 : St g2 r r0 (c + i * 10000 + 1 + 2000) := s2
  have f2 : Fr r r0 g1 g2 := f2
  rw [seqQ_nx, ok_seqM, ok_ifM, ok_bd]
  refine ok_rdv rfl ?_
  rw [ok_asB]
  by_cases hz : z = 0
  · simp only [hz, decide_true, if_true] at hl ⊢
    rw [ok_setM, ok_callM, ok_consM]
    refine ok_rdv rfl ?_
    rw [ok_consM]
    refine ok_rdv rfl ?_
    rw [ok_consM, ok_callM, ok_consM]
    refine ok_rdv rfl ?_
    simp only [ok_consM, ok_ret, ok_nilM]
    refine (drawn_book_ok (small := true) s2 (by omega)).imp ?_
    rintro _ ⟨_, g3⟩ ⟨s3, f3, m', ts', rfl, ht', m1', m2', hl'⟩
    have s3 : St g3 r r0 (c + i * 10000 + 1 + 2000 + 2000) := s3
    have f3 : Fr r r0 g2 g3 := f3
    simp only [if_true] at hl'
    refine (joined_ok s3 (by omega) m1 m2 m1' m2' ht ht' hl hl').imp ?_
    rintro _ ⟨_, g4⟩ ⟨s4, f4, m'', ts'', rfl, ht'', m1'', m2'', hl''⟩
    have s4 : St g4 r r0 (c + i * 10000 + 1 + 2000 + 2000 + 1000) := s4
    have f4 : Fr r r0 g3 g4 := f4
    rw [seqQ_nx]
    exact ft_tail hi hc (s4.mono (by omega)) ((((f.trans f1).trans f2).trans f3).trans f4) hr k1 k2 k3 k4 ht'' m1''
  · simp only [hz, decide_false, Bool.false_eq_true, if_false]
    rw [ok_ret, seqQ_nx]
    exact ft_tail hi hc (s2.mono (by omega)) ((f.trans f1).trans f2) hr k1 k2 k3 k4 ht m1
theorem fitting_ok {g : G} {r r0 : Nat} {c G' W : Int} (s : St g r r0 c) (hc : c + 60000 ≤ 100000000000000) (hG : 2 ≤ G') (hW : 1 ≤ W) :
    Ok (m_l_fitting [.box r, .int G', .int W] ⟨[], g⟩) (FtQ g r r0 c G' W) := by
  have hsl := sizeLine_eq
  unfold m_l_fitting
  rw [ok_runF, ft_eq]
  have e : slots 7 [.box r, .int G', .int W] = [.val (.box r), .val (.int G'), .val (.int W), .emp, .emp, .emp, .emp] := rfl
  rw [e, ok_seqM]
  unfold ft_0
  simp [hsl]
  rw [ok_seqM]
  have h01 : Rws 2 [[0, 1]] := ⟨by simp, fun row hr => by simp at hr; subst hr; exact ⟨by simp, by decide, fun z hz => by simp at hz; omega⟩⟩
  refine Ok.imp (Q := FtF g r r0 c G' W) ?_ ?_
  · unfold ft_1
    simp only [ok_bd, ok_ret]
    rw [ok_rng1]
    refine ⟨by decide, ?_⟩
    refine ok_forM (FtI g r r0 c G' W) (fun _ _ _ _ => trivial) ⟨2, [[0, 1]], _, _, _, rfl, by simpa using s, .refl g, h01, by decide, hG, by decide, by simpa using hW⟩ ?_ (fun S h => h)
    rintro i d ⟨sl, g1⟩ hd ⟨n, rs, x4, x5, x6, rfl, s1, f1, hr, k1, k2, k3, k4⟩
    obtain ⟨hi, rfl⟩ := rngD_get hd
    have hi : i < 6 := hi
    refine ⟨_, asg_nm, ?_⟩
    rw [show (D.int (0 + (i : Nat))) = D.int (i : Nat) from by rw [Int.zero_add]]
    refine (ft_turn (x5 := x5) (x6 := x6) hi hc s1 f1 hr k1 k2 k3 k4).imp ?_
    intro f S h
    cases f <;> first | exact h | exact False.elim h
  · intro f S h
    cases f with
    | nx =>
      obtain ⟨sl, g1⟩ := S
      obtain ⟨n, rs, x4, x5, x6, rfl, s1, f1, hr, k1, k2, k3, k4⟩ := h
      have s1 : St g1 r r0 (c + (6 : Nat) * 10000) := s1
      rw [seqQ_nx]
      unfold ft_2
      simp [ok_rd]
      exact ⟨s1.mono (by omega), f1, n, rs, rfl, hr, k1, k2, k3, k4⟩
    | rt d => exact h
    | bk => exact h.elim
    | ct => exact h.elim
end Lw
end

section
/-! K01p: a drawn book. -/
namespace Lw
open PySem L2 Mm
def cal (ys : List Int) (z : Int) : Int := ys[z.toNat]?.getD 0
theorem nodup_idx {ys : List Int} (h : ys.Nodup) : ∀ {i j : Nat} {z : Int}, ys[i]? = some z → ys[j]? = some z → i = j := by
  induction ys with
  | nil => intro i j z e; simp at e
  | cons y ys ih =>
    rw [List.nodup_cons] at h
    intro i j z e1 e2
    cases i with
    | zero =>
      cases j with
      | zero => rfl
      | succ j => simp at e1 e2; subst e1; exact absurd (List.mem_of_getElem? e2) h.1
    | succ i =>
      cases j with
      | zero => simp at e1 e2; subst e2; exact absurd (List.mem_of_getElem? e1) h.1
      | succ j => simp at e1 e2; rw [ih h.2 e1 e2]
theorem cal_get {ys : List Int} {z : Int} (h1 : 0 ≤ z) (h2 : z < ys.length) : ys[z.toNat]? = some (cal ys z) := by
  have e : ys[z.toNat]? = some (ys[z.toNat]'(by omega)) := List.getElem?_eq_getElem (by omega)
  unfold cal
  rw [e]; rfl
theorem map_inj_on {α β : Type} {f : α → β} {P : α → Prop} (inj : ∀ a b, P a → P b → f a = f b → a = b) : ∀ {xs ys : List α}, (∀ x ∈ xs, P x) → (∀ y ∈ ys, P y) → xs.map f = ys.map f → xs = ys
  | [], [], _, _, _ => rfl
  | [], y :: ys, _, _, h => by simp at h
  | x :: xs, [], _, _, h => by simp at h
  | x :: xs, y :: ys, h1, h2, h => by
    simp at h
    rw [inj _ _ (h1 x (by simp)) (h2 y (by simp)) h.1, map_inj_on inj (fun z hz => h1 z (by simp [hz])) (fun z hz => h2 z (by simp [hz])) h.2]
theorem relabel {n : Int} {rs : List (List Int)} {ys : List Int} (h : Rws n rs) (hy : ys.Nodup) (hl : n ≤ ys.length) (hb : ∀ z ∈ ys, 0 ≤ z ∧ z < (ys.length : Int)) : Rws ys.length (rs.map fun row => row.map (cal ys)) := by
  have inj : ∀ a b : Int, (0 ≤ a ∧ a < n) → (0 ≤ b ∧ b < n) → cal ys a = cal ys b → a = b := by
    intro a b ha hb' e
    have e1 := cal_get (ys := ys) ha.1 (by omega)
    have e2 := cal_get (ys := ys) hb'.1 (by omega)
    rw [e] at e1
    have := nodup_idx hy e1 e2
    omega
  refine ⟨nodup_map h.nd fun a ha b hb e => map_inj_on inj (h.rw a ha).bd (h.rw b hb).bd e, fun row hr => ?_⟩
  obtain ⟨row', h1, rfl⟩ := List.mem_map.mp hr
  have hr' := h.rw row' h1
  refine ⟨by simpa using hr'.ne, nodup_map hr'.nd fun a ha b hb e => inj a b (hr'.bd a ha) (hr'.bd b hb) e, fun z hz => ?_⟩
  obtain ⟨w, hw, rfl⟩ := List.mem_map.mp hz
  have := hr'.bd w hw
  exact hb _ (List.mem_of_getElem? (cal_get this.1 (by omega)))
theorem Rws.perm {n : Int} {rs ts : List (List Int)} (h : Rws n rs) (p : ts.Perm rs) : Rws n ts := ⟨p.nodup_iff.mpr h.nd, fun row hr => h.rw row (p.mem_iff.mp hr)⟩
def BoI (g : G) (r r0 : Nat) (c G' W many : Int) (q : Nat) (i : Nat) (S : Sg) : Prop := ∃ (rs : List (List Int)) (x4 x5 x6 x8 x9 : Slot), S.sl = [.val (.box r), .val (.int G'), .val (.int W), .val (.int many), x4, x5, x6, .val (.box q), x8, x9] ∧ St S.g r r0 (c + i * 1001) ∧ Fr r r0 g S.g ∧
  q < S.g.nx ∧ S.g.cs q = some (.lst (rs.map dInts)) ∧ Rws many rs ∧ 1 ≤ rs.length ∧ (rs.length : Int) ≤ W
theorem bk_loop {g : G} {r r0 : Nat} {c G' W many : Int} {q : Nat} {S : Sg} (hc : c + 10000 ≤ 100000000000000) (hm : 1 ≤ many) (hm2 : many ≤ 1000) (hW : W ≤ 1000) (hq : g.nx ≤ q) (q1 : q ≠ r) (q2 : q ≠ r0) (h0 : BoI g r r0 c G' W many q 0 S) :
    Ok (bk_4 S) fun f S => f = Fl.nx ∧ ∃ k, k ≤ 4 ∧ BoI g r r0 (c + 1) G' W many q k S := by
  have hsl := sizeLine_eq
  obtain ⟨sl, g0⟩ := S
  obtain ⟨rs, x4, x5, x6, x8, x9, rfl, s0, f0, hq0, d0, hr, l1, l2⟩ := h0
  have s0 : St g0 r r0 (c + (0 : Nat) * 1001) := s0
  have s0 : St g0 r r0 c := by simpa using s0
  unfold bk_4
  simp [ok_callM, ok_rd]
  refine (draw_ok s0 (by omega) (by omega) (by omega)).imp ?_
  rintro _ ⟨_, g1⟩ ⟨_, s1, f1, z, rfl, z0, z1⟩
  have s1 : St g1 r r0 (c + 1) := s1
  have f1 : Fr r r0 g0 g1 := f1
  have f0 : Fr r r0 g g0 := f0
  have d1 := f1.keep d0 hq0 q1 q2
  simp [ok_rng1]
  refine ⟨by omega, ?_⟩
  refine ok_forM (BoI g r r0 (c + 1) G' W many q) (fun _ _ _ _ => trivial) ⟨rs, _, _, _, _, _, rfl, by simpa using s1, f0.trans f1, Nat.lt_of_lt_of_le hq0 f1.nx, d1, hr, l1, l2⟩ ?_ ?_
  · rintro i d ⟨sl, g2⟩ hd ⟨rs, x4, x5, x6, x8, x9, rfl, s2, f2, hq2, d2, hr, l1, l2⟩
    obtain ⟨hi, rfl⟩ := rngD_get hd
    have s2 : St g2 r r0 (c + 1 + i * 1001) := s2
    have f2 : Fr r r0 g g2 := f2
    have d2 : g2.cs q = some (.lst (rs.map dInts)) := d2
    refine ⟨_, asg_nm, ?_⟩
    rw [ok_seqM, ok_setM]
    refine rowM (i := 0) (j := 3) rfl rfl s2 hm (by omega) (by omega) ?_
    intro row g3 hrow s3 f3
    have s4 : St g3 r r0 (c + 1 + (i + 1 : Nat) * 1001) := s3.mono (by omega)
    have d3 := f3.keep d2 hq2 q1 q2
    have hq3 : q < g3.nx := Nat.lt_of_lt_of_le hq2 f3.nx
    have keep : BoI g r r0 (c + 1) G' W many q (i + 1) ⟨[.val (.box r), .val (.int G'), .val (.int W), .val (.int many), x4, x5, .val (dInts row), .val (.box q), .val (.int (0 + i)), x9], g3⟩ :=
      ⟨rs, _, _, _, _, _, rfl, s4, f2.trans f3, hq3, d3, hr, l1, l2⟩
    simp [ok_ifM, ok_andM, ok_inM, ok_rd, ok_hdN, vw_boxI, d3]
    split
    · simpa using keep
    · rename_i hnin
      split
      · rename_i hlt
        simp [hsl, ok_callM, ok_rd, ok_catC, ok_hdN, vw_boxI, d3]
        rw [map_snoc, fold_rows]
        refine ⟨by omega, ?_⟩
        have hr1 := hr.snoc hrow hnin
        refine (lack_ok (Small.of hr1 (by omega) (by simp; omega))).imp ?_
        rintro d ⟨_, g5⟩ ⟨e5, h5⟩
        have e5 : g5 = g3 := e5
        subst e5
        rcases h5 with rfl | ⟨ds, rfl⟩
        · simp [isN, ok_mutM, ok_plN, ok_rd, d3, appF]
          rw [if_pos (by omega), onO_some]
          refine ⟨rs ++ [row], x4, x5, .val (dInts row), .val (.int i), x9, ?_, s4.put q1 q2, (f2.trans f3).put hq, hq3, ?_, hr1, by simp, by simp; omega⟩
          · simp
          · simp [put_cs]
        · simp [isN]
          simpa using keep
      · simpa using keep
  · intro S h
    have h : BoI g r r0 (c + 1) G' W many q (rngD 0 z.toNat).length S := h
    rw [rngD_len] at h
    exact ⟨rfl, z.toNat, by omega, h⟩
theorem mixRows {sl : List Slot} {g : G} {r r0 : Nat} {c : Int} {rs : List (List Int)} {Q : D → Sg → Prop} (s : St g r r0 c) (hl : rs.length ≤ 100000) (hc : c + rs.length ≤ 100000000000000)
    (q : ∀ (ts : List (List Int)) (q : Nat) (g' : G), ts.Perm rs → St g' r r0 (c + rs.length) → Fr r r0 g g' → g.nx ≤ q → q < g'.nx → g'.cs q = some (.lst (ts.map dInts)) → Q (.box q) ⟨sl, g'⟩) :
    Ok (m_l_mixed [.box r, dRows rs] ⟨[], g⟩) (fun d S2 => Q d ⟨sl, S2.g⟩) := by
  have hsl := sizeLine_eq
  have h1 : (rs.map dInts).length < sizeLine := by rw [List.length_map]; omega
  have h2 : c + (rs.map dInts).length ≤ 100000000000000 := by rw [List.length_map]; exact hc
  refine (mixed_ok s (vwD_lst (xs := rs.map dInts)) h1 h2).imp ?_
  rintro d ⟨sl2, g2⟩ ⟨_, s2, f2, ys, p, hp, rfl, p1, p2, hq⟩
  rw [List.length_map] at s2
  obtain ⟨zs, rfl, hz⟩ := perm_map hp
  exact q zs p g2 hz s2 f2 p1 p2 hq
def BookQ (g : G) (r r0 : Nat) (c G' W : Int) (d : D) (S : Sg) : Prop := St S.g r r0 (c + 100000) ∧ Fr r r0 g S.g ∧ ∃ n rs, d = .tup [.int n, dRows rs] ∧ Rws n rs ∧ 1 ≤ n ∧ n ≤ G' ∧ 1 ≤ rs.length ∧ (rs.length : Int) ≤ W
theorem book_ok {g : G} {r r0 : Nat} {c G' W : Int} (s : St g r r0 c) (hc : c + 100000 ≤ 100000000000000) (hG : 2 ≤ G') (hG2 : G' ≤ 1000) (hW : 1 ≤ W) (hW2 : W ≤ 1000) :
    Ok (m_l_book [.box r, .int G', .int W] ⟨[], g⟩) (BookQ g r r0 c G' W) := by
  have hsl := sizeLine_eq
  have lx := s.l1
  have ly := s.l2
  unfold m_l_book
  rw [ok_runF, bk_eq]
  have e : slots 10 [.box r, .int G', .int W] = [.val (.box r), .val (.int G'), .val (.int W), .emp, .emp, .emp, .emp, .emp, .emp, .emp] := rfl
  rw [e, ok_seqM]
  unfold bk_0
  simp [ok_callM, ok_rd]
  refine (fitting_ok s (by omega) hG hW).imp ?_
  rintro _ ⟨_, g1⟩ ⟨s1, f1, n, rs, rfl, hr, k1, k2, k3, k4⟩
  have s1 : St g1 r r0 (c + 60000) := s1
  have f1 : Fr r r0 g g1 := f1
  simp [asg, asgs]
  rw [ok_seqM]
  unfold bk_1
  simp [ok_v2, ok_callM, ok_rd]
  refine (draw_ok s1 (by omega) (by omega) (by omega)).imp ?_
  rintro _ ⟨_, g2⟩ ⟨_, s2, f2, z, rfl, z0, z1⟩
  have s2 : St g2 r r0 (c + 60000 + 1) := s2
  have f2 : Fr r r0 g1 g2 := f2
  simp
  generalize hmany : (if n + z < G' then n + z else G') = many
  have hm1 : n ≤ many := by rw [← hmany]; split <;> omega
  have hm2 : many ≤ G' := by rw [← hmany]; split <;> omega
  rw [ok_seqM]
  unfold bk_2
  rw [ok_setM]
  refine mixR (i := 0) (j := 3) rfl rfl s2 (by omega) (by omega) (by omega) ?_
  intro ys g3 hy s3 f3
  have hyl : (ys.length : Int) = many := by rw [hy.length_eq, rngI_len]; omega
  have hyn : ys.Nodup := hy.nodup_iff.mpr rngI_nd
  have hyb : ∀ w ∈ ys, 0 ≤ w ∧ w < (ys.length : Int) := fun w hw => by have := rngI_mem.mp (hy.mem_iff.mp hw); omega
  have hre := relabel hr hyn (by omega) hyb
  rw [hyl] at hre
  rw [seqQ_nx, ok_seqM]
  unfold bk_3
  rw [ok_setM, ok_callM, ok_consM]
  refine ok_rdv rfl ?_
  rw [ok_consM, ok_bd]
  refine ok_lcMap (f := upR fun row => row.map (cal ys)) (by simp [Sg.st]) rfl (src_items rfl vwD_dR) vwD_dR (by rw [List.length_map]; omega) ?_ ?_
  · intro d hd P hP
    obtain ⟨row, hm, rfl⟩ := mem_rows hd
    have hrow := hr.rw row hm
    have hlen := hrow.len
    rw [upR_ints] at hP
    rw [ok_bd]
    refine ok_lcMap (f := upI (cal ys)) (by simp [Sg.st]) rfl (src_items rfl vwD_dI) vwD_dI (by rw [List.length_map]; omega) ?_ ?_
    · intro d hd P hP
      obtain ⟨w, hw, rfl⟩ := mem_intsD hd
      have hwb := hrow.bd w hw
      rw [upI_int] at hP
      have e1 := cal_get (ys := ys) hwb.1 (by omega)
      have e2 : atI (ys.map D.int) w = some (.int (cal ys w)) := by
        obtain ⟨k, rfl⟩ := Int.eq_ofNat_of_zero_le hwb.1
        rw [Int.toNat_natCast] at e1
        exact atI_nat (by rw [List.getElem?_map, e1]; rfl)
      simp [Sg.st, ok_ixM, ok_hdN, ok_rd, ok_ixPI, e2]
      exact hP
    · rw [map_ints (h := cal ys) fun z => rfl, ok_frzI]
      exact hP
  · rw [map_rows (h := fun row => row.map (cal ys)) fun row _ => upR_ints, ok_frzR, ok_nilM]
    have b1 : (rs.map fun row => row.map (cal ys)).length ≤ 100000 := by rw [List.length_map]; omega
    have b2 : c + 60000 + 1 + many + (rs.map fun row => row.map (cal ys)).length ≤ 100000000000000 := by rw [List.length_map]; omega
    refine mixRows (sl := [.val (.box r), .val (.int G'), .val (.int W), .val (.int many), .val (dRows rs), .val (dInts ys), .emp, .emp, .emp, .emp]) (Q := fun d S => seqQ (seqM bk_4 bk_5) (endQ (BookQ g r r0 c G' W)) Fl.nx (S.st 7 (.val d))) s3 b1 b2 ?_
    intro ts q g4 hp s4 f4 q1 q2 d4
    have q1 : g3.nx ≤ q := q1
    have f4 : Fr r r0 g3 g4 := f4
    rw [List.length_map] at s4
    have hlt : ts.length = rs.length := by rw [hp.length_eq, List.length_map]
    rw [seqQ_nx, ok_seqM]
    have n3 := f3.nx
    have n2 := f2.nx
    have n1 := f1.nx
    have o1 : c + 61000 + 2000 + 10000 ≤ 100000000000000 := by omega
    have o2 : 1 ≤ many := by omega
    have o3 : many ≤ 1000 := by omega
    have o4 : g.nx ≤ q := by omega
    have o5 : q ≠ r := by omega
    have o6 : q ≠ r0 := by omega
    refine (bk_loop (g := g) (c := c + 61000 + 2000) (many := many) (G' := G') (W := W) (q := q) o1 o2 o3 hW2 o4 o5 o6 ⟨ts, _, _, _, _, _, rfl, s4.mono (by omega), ((f1.trans f2).trans f3).trans f4, q2, d4, hre.perm hp, by omega, by omega⟩).imp ?_
    rintro f ⟨sl, g5⟩ ⟨rfl, k, hk, us, x4, x5, x6, x8, x9, rfl, s5, f5, q5, d5, hr5, l1, l2⟩
    have s5 : St g5 r r0 (c + 61000 + 2000 + 1 + k * 1001) := s5
    have d5 : g5.cs q = some (.lst (us.map dInts)) := d5
    rw [seqQ_nx]
    unfold bk_5
    simp [hsl, ok_rd]
    rw [ok_frzD d5]
    exact ⟨(s5.del (by omega) (by omega)).mono (by omega), Fr.del f5 (by omega), many, us, rfl, hr5, by omega, hm2, l1, l2⟩
end Lw
end

section
/-! K01q: what is asked of a way. -/
namespace Lw
open PySem L2 Mm
theorem ok_eqn {α : Type} {r : R α} {a : α} {S : Sg} {Q : α → Sg → Prop} (h : r = .ok a S) : Ok r Q ↔ Q a S := by rw [h]; exact ok_ok
theorem number_ok {g : G} {i : Int} : Ok (m_is_number [.int i] ⟨[], g⟩) fun d S => S.g = g ∧ d = .bl (decide (0 ≤ i)) := by
  unfold m_is_number
  rw [ok_runF]
  unfold b_is_number
  have e : slots 1 [.int i] = [.val (.int i)] := rfl
  rw [e, ok_retM, ok_andV, ok_callM, ok_consM]
  refine ok_rdv rfl ?_
  rw [ok_nilM]
  unfold m_is_integer
  rw [ok_runF]
  unfold b_is_integer
  have e : slots 1 [.int i] = [.val (.int i)] := rfl
  have k1 : "int" ∈ known := by decide
  have k2 : "bool" ∈ known := by decide
  have t1 : isT "int" "int" = true := by decide
  have t2 : isT "int" "bool" = false := by decide
  rw [e, ok_retM, ok_andV, isi_of]
  refine ok_rdv rfl ?_
  rw [ok_ret, ok_eqn (isi_int k1), t1, onB_bl, if_pos rfl, ok_notV, isi_of]
  refine ok_rdv rfl ?_
  rw [ok_ret, ok_eqn (isi_int k2), t2, onB_bl, onB_bl, endQ_rt, onB_bl, if_pos (by decide), ok_bop]
  refine ok_rdv rfl ?_
  rw [ok_ret, ok_geI, onB_bl, endQ_rt]
  exact ⟨rfl, rfl⟩
theorem list_ok {g : G} {d : D} {v : Vw} (h : vwD ⟨[], g⟩ d = some v) : Ok (m_is_list [d] ⟨[], g⟩) fun x S => S.g = g ∧ x = .bl true := by
  have hsl := sizeLine_eq
  unfold m_is_list
  rw [ok_runF]
  unfold b_is_list
  have e : slots 1 [d] = [.val d] := rfl
  have h' : vwD ⟨[.val d], g⟩ d = some v := by rw [vwD_sl (sl' := [])]; exact h
  rw [e, ok_retM, isi_of]
  refine ok_rdv rfl ?_
  simp only [ok_tupM, ok_consM, ok_ret, ok_nilM, ok_eqn (isi_seqs h'), endQ_rt]
  exact ⟨by simp [hsl], trivial, trivial⟩
theorem unlike_ok {g : G} {d : D} {b : Bool} {row : List Int} {n : Int} (h : vwD ⟨[], g⟩ d = some (b, row.map D.int)) (hr : Rw n row) (hl : row.length ≤ 100000) : Ok (m_are_unlike [d, .int n] ⟨[], g⟩) fun x S => S.g = g ∧ x = .bl true := by
  have hsl := sizeLine_eq
  unfold m_are_unlike
  rw [ok_runF]
  unfold b_are_unlike
  have e : slots 3 [d, .int n] = [.val d, .val (.int n), .emp] := rfl
  have hv : ∀ sl, vwD ⟨sl, g⟩ d = some (b, row.map D.int) := fun sl => by rw [vwD_sl (sl' := [])]; exact h
  rw [e, ok_seqM, ok_ifM, ok_orM, ok_notM, ok_bd, ok_callM, ok_consM]
  refine ok_rdv rfl ?_
  rw [ok_nilM]
  refine (list_ok h).imp ?_
  rintro x ⟨_, g1⟩ ⟨e1, rfl⟩
  have e1 : g1 = g := e1
  subst e1
  rw [ok_asB, if_neg (by decide), ok_notM, ok_bd, ok_h1, ok_hdE, ok_bd]
  refine ok_lcMap (f := upB fun z => decide (0 ≤ z) && decide (z < n)) (by simp) rfl (src_items rfl (hv _)) (hv _) (by rw [List.length_map]; omega) ?_ ?_
  · intro d' hd P hP
    obtain ⟨z, hz, rfl⟩ := mem_intsD hd
    have hzb := hr.bd z hz
    rw [ok_andV, ok_callM, ok_consM]
    refine ok_rdv rfl ?_
    rw [ok_nilM]
    refine number_ok.imp ?_
    rintro x ⟨_, g2⟩ ⟨e2, rfl⟩
    have e2 : g2 = g1 := e2
    subst e2
    have e3 : upB (fun z => decide (0 ≤ z) && decide (z < n)) (.int z) = .bl true := by simp [upB, hzb.1, hzb.2]
    rw [e3] at hP
    simp only [onB_bl, hzb.1, decide_true, if_true]
    simp [ok_rd, hzb.2]
    exact hP
  · rw [map_bls (h := fun z => decide (0 ≤ z) && decide (z < n)) fun z => rfl, ok_frzC, vw_lst, onO_some, ok_allF, ok_asB]
    have e4 : (List.map (fun z => decide (0 ≤ z) && decide (z < n)) row).all id = true := by
      rw [List.all_map, List.all_eq_true]
      intro z hz
      have hzb := hr.bd z hz
      simp [hzb.1, hzb.2]
    rw [e4, if_neg (by decide), ok_ret, seqQ_nx, ok_retM, ok_bop, ok_bd]
    refine ok_dcInts (src_items rfl (hv _)) (by simp) rfl (hv _) (by omega) hr.nd ?_
    rw [ok_lenDK, ok_h1, ok_hdN]
    refine ⟨_, hv _, ?_⟩
    simp only [ok_lenF, ok_eqI, endQ_rt]
    exact ⟨trivial, by simp⟩
/-- things that are lists or tuples of ints -/
structure Are (g : G) (ts : List D) (rs : List (List Int)) : Prop where
  len : ts.length = rs.length
  ex : ∀ (i : Nat) (t : D), ts[i]? = some t → ∃ (b : Bool) (row : List Int), rs[i]? = some row ∧ vwD ⟨[], g⟩ t = some (b, row.map D.int)
def FbI (g : G) (n : Int) (T : D) (rs : List (List Int)) (i : Nat) (S : Sg) : Prop := S.g = g ∧ ∃ x3 x4, S.sl = [.val (.int n), .val T, .own (.lst ((rs.take i).map dInts)), x3, x4]
theorem first_ok {g : G} {T : D} {b : Bool} {ts : List D} {rs : List (List Int)} {n : Int} (h : vwD ⟨[], g⟩ T = some (b, ts)) (ha : Are g ts rs) (hr : Rws n rs) (hl : rs.length ≤ 100000) (hn : n ≤ 10000) : Ok (m_first_bad_way [.int n, T] ⟨[], g⟩) fun x S => S.g = g ∧ x = .non := by
  have hsl := sizeLine_eq
  unfold m_first_bad_way
  rw [ok_runF]
  unfold b_first_bad_way
  have e : slots 5 [.int n, T] = [.val (.int n), .val T, .emp, .emp, .emp] := rfl
  have hv : ∀ sl, vwD ⟨sl, g⟩ T = some (b, ts) := fun sl => by rw [vwD_sl (sl' := [])]; exact h
  rw [e, ok_seqM, ok_ifM, ok_notM, ok_bd, ok_callM, ok_consM]
  refine ok_rdv rfl ?_
  rw [ok_nilM]
  refine (list_ok h).imp ?_
  rintro x ⟨_, g1⟩ ⟨e1, rfl⟩
  have e1 : g1 = g := e1
  subst e1
  rw [ok_asB, if_neg (by decide), ok_ret, seqQ_nx, ok_seqM]
  simp only [ok_ownM, ok_lstM, ok_nilM, List.length, Nat.zero_le, true_and, seqQ_nx, Sg.st, List.set]
  rw [ok_seqM]
  refine Ok.imp (Q := fun f S => f = Fl.nx ∧ FbI g1 n T rs rs.length S) ?_ ?_
  · simp only [ok_bd]
    refine ok_rdv rfl ?_
    rw [ok_enumS, hv, onO_some]
    refine ok_forM (FbI g1 n T rs) ?_ ⟨rfl, .emp, .emp, by simp⟩ ?_ ?_
    · rintro i ⟨sl, g2⟩ _ ⟨e2, _⟩
      have e2 : g2 = g1 := e2
      subst e2
      exact hv sl
    · rintro i d ⟨sl, g2⟩ hd ⟨e2, x3, x4, e3⟩
      have e2 : g2 = g1 := e2
      subst e2
      have e3 : sl = _ := e3
      subst e3
      have hd : (enFrom 0 ts)[i]? = some d := hd
      rw [enFrom_get] at hd
      cases ht : ts[i]? with
      | none => rw [ht] at hd; simp at hd
      | some t =>
        rw [ht] at hd
        simp at hd
        subst hd
        obtain ⟨b', row, hrow, hvt⟩ := ha.ex i t ht
        have hvt' : ∀ sl, vwD ⟨sl, g2⟩ t = some (b', row.map D.int) := fun sl => by rw [vwD_sl (sl' := [])]; exact hvt
        have hm := List.mem_of_getElem? hrow
        have hrr := hr.rw row hm
        have hlen := hrr.len
        have htn := take_not hr.nd hrow
        refine ⟨⟨[.val (.int n), .val T, .own (.lst ((rs.take i).map dInts)), .val (.int i), .val t], g2⟩, by simp [asg, asgs], ?_⟩
        rw [ok_seqM, ok_ifM, ok_orM, ok_notM, ok_bd, ok_callM, ok_consM]
        refine ok_rdv rfl ?_
        rw [ok_consM]
        refine ok_rdv rfl ?_
        rw [ok_nilM]
        refine (unlike_ok hvt hrr (by omega)).imp ?_
        rintro x ⟨_, g3⟩ ⟨e3, rfl⟩
        have e3 : g3 = g2 := e3
        subst e3
        rw [ok_asB, if_neg (by decide), ok_orM, ok_bopT, ok_h1, ok_hdN]
        refine ⟨_, hvt' _, ?_⟩
        have hne : row.length ≠ 0 := fun z => hrr.ne (List.length_eq_zero_iff.mp z)
        simp only [ok_lenF, ok_ret, List.length_map, ok_eqI, ok_asB]
        rw [if_neg (by simpa using hrr.ne), ok_bd, ok_inM, ok_bd, ok_h1C, ok_hdN]
        refine ⟨_, hvt' _, ?_⟩
        simp only [ok_listF, ok_frzI]
        rw [ok_hdN]
        refine ⟨_, rfl, ?_⟩
        simp only [ok_inR, ok_asB]
        rw [if_neg (by simpa using htn), seqQ_nx, ok_exprM, ok_mutM, ok_plN]
        refine ⟨_, rfl, ?_⟩
        rw [ok_consM, ok_bd, ok_h1C, ok_hdN]
        refine ⟨_, hvt' _, ?_⟩
        simp only [ok_listF, ok_frzI, ok_nilM]
        refine ⟨_, rfl, ?_⟩
        have hlt : ((rs.take i).map dInts).length < sizeLine := by rw [List.length_map, List.length_take]; omega
        simp only [appF, if_pos hlt, onO_some]
        refine ⟨rfl, .val (.int i), .val t, ?_⟩
        rw [take_snoc hrow, ← map_snoc]
        rfl
    · intro S h
      have h : FbI g1 n T rs (enFrom 0 ts).length S := h
      rw [enFrom_len, ha.len] at h
      exact ⟨rfl, h⟩
  · rintro f ⟨sl, g2⟩ ⟨rfl, e2, x3, x4, e3⟩
    rw [seqQ_nx, ok_retM, ok_ret, endQ_rt]
    exact ⟨e2, rfl⟩
end Lw
end

section
/-! K01r: books made, told, compared. -/
namespace Lw
open PySem L2 Mm
def bkF (n : Int) (rs : List (List Int)) (k : Nat) : List (Str × D) := [("own_gates", .int n), ("own_ways", dRows rs), ("own_known", .box k)]
/-- a book at p -/
def IsB (g : G) (p : Nat) (n : Int) (rs : List (List Int)) : Prop := ∃ k, g.cs p = some (.ins "Book" (bkF n rs k))
/-- a new book at g.nx, nothing else touched -/
structure NewB (g : G) (n : Int) (rs : List (List Int)) (g' : G) : Prop where
  nx : g'.nx = g.nx + 2
  at_ : IsB g' g.nx n rs
  cs : ∀ q, q < g.nx → g'.cs q = g.cs q
def rowOf (g : G) (t : D) : D := match vwD ⟨[], g⟩ t with | some v => .lst v.2 | none => .non
theorem Are.map {g : G} {ts : List D} {rs : List (List Int)} (h : Are g ts rs) : ts.map (rowOf g) = rs.map dInts := by
  apply List.ext_getElem?
  intro i
  rw [List.getElem?_map, List.getElem?_map]
  cases e : ts[i]? with
  | none =>
    have : rs[i]? = none := by rw [List.getElem?_eq_none_iff] at e ⊢; rw [← h.len]; exact e
    rw [this]; rfl
  | some t =>
    obtain ⟨b, row, h1, h2⟩ := h.ex i t e
    rw [h1]
    simp only [Option.map_some, rowOf, h2]
    rfl
theorem vw_keep {g g' : G} {sl sl' : List Slot} {d : D} {v : Vw} (h : ∀ r xs, g.cs r = some (.lst xs) → g'.cs r = some (.lst xs)) (e : vwD ⟨sl, g⟩ d = some v) : vwD ⟨sl', g'⟩ d = some v := by
  cases d with
  | box r =>
    unfold vwD at e ⊢
    cases c : g.cs r with
    | none => simp [c] at e
    | some x => cases x <;> simp [c] at e; simp [h _ _ c]; exact e
  | lst xs => exact e
  | tup xs => exact e
  | _ => simp [vwD] at e
theorem put_self {g : G} {r : Nat} {x : Cell} : (g.put r x).cs r = some x := by rw [put_cs, if_pos rfl]
theorem putF2 {x y : D} : putFA "own_ways" y (putFA "own_gates" x []) = ([("own_gates", x), ("own_ways", y)] : List (Str × D)) := by
  have n1 : ("own_gates" : Str) ≠ "own_ways" := by decide
  simp only [putFA, if_neg n1]
theorem putF3 {x y z : D} : putFA "own_known" z ([("own_gates", x), ("own_ways", y)] : List (Str × D)) = ([("own_gates", x), ("own_ways", y), ("own_known", z)] : List (Str × D)) := by
  have n2 : ("own_gates" : Str) ≠ "own_known" := by decide
  have n3 : ("own_ways" : Str) ≠ "own_known" := by decide
  simp only [putFA, if_neg n2, if_neg n3]
theorem make_ok {sl : List Slot} {g : G} {T : D} {b : Bool} {ts : List D} {rs : List (List Int)} {n : Int} {Q : D → Sg → Prop} (h : vwD ⟨[], g.add (.ins "Book" [])⟩ T = some (b, ts)) (ha : Are (g.add (.ins "Book" [])) ts rs) (hr : Rws n rs) (h0 : 0 ≤ n) (hl : rs.length ≤ 100000) (hn : n ≤ 10000)
    (q : ∀ g', NewB g n rs g' → Q (.box g.nx) ⟨sl, g'⟩) : Ok (newM "Book" m_Book_init [.int n, T] ⟨sl, g⟩) Q := by
  have hsl := sizeLine_eq
  rw [ok_newM]
  generalize hg1 : g.add (.ins "Book" []) = g1 at h ha
  have c1 : g1.cs g.nx = some (.ins "Book" []) := by rw [← hg1, add_cs, if_pos rfl]
  have nx1 : g1.nx = g.nx + 1 := by rw [← hg1, add_nx]
  have o1 : ∀ q, q < g.nx → g1.cs q = g.cs q := fun q hq => by rw [← hg1, add_cs, if_neg (by omega)]
  unfold m_Book_init
  rw [ok_runF]
  unfold b_Book_init
  have e : slots 5 [.box g.nx, .int n, T] = [.val (.box g.nx), .val (.int n), .val T, .emp, .emp] := rfl
  have hv : ∀ sl, vwD ⟨sl, g1⟩ T = some (b, ts) := fun sl => by rw [vwD_sl (sl' := [])]; exact h
  rw [e, ok_seqM, ok_ifM, ok_notM, ok_bd, ok_callM, ok_consM]
  refine ok_rdv rfl ?_
  rw [ok_nilM]
  refine number_ok.imp ?_
  rintro x ⟨_, g2⟩ ⟨e2, rfl⟩
  have e2 : g2 = g1 := e2
  subst e2
  rw [ok_asB, if_neg (by simpa using h0), ok_ret, seqQ_nx, ok_seqM, ok_setM, ok_callM, ok_consM]
  refine ok_rdv rfl ?_
  rw [ok_consM]
  refine ok_rdv rfl ?_
  rw [ok_nilM]
  refine (first_ok h ha hr hl hn).imp ?_
  rintro x ⟨_, g3⟩ ⟨e3, rfl⟩
  have e3 : g3 = g2 := e3
  subst e3
  rw [seqQ_nx, ok_seqM, ok_ifM, ok_notNT]
  refine ok_rdv rfl ?_
  rw [if_neg (by decide), ok_ret, seqQ_nx, ok_seqM, ok_setFldM]
  refine ok_rdv rfl (ok_rdv rfl ?_)
  rw [onX_box]
  refine ⟨_, _, c1, ⟨by simp, by simp⟩, ?_⟩
  rw [seqQ_nx, ok_seqM, ok_setFldM, ok_bd]
  have kp : ∀ x r xs, g3.cs r = some (.lst xs) → (g3.put g.nx x).cs r = some (.lst xs) := by
    intro x r xs hx
    rw [put_cs, if_neg]
    · exact hx
    · intro z; subst z; rw [c1] at hx; cases hx
  have hv4 : ∀ x sl, vwD ⟨sl, g3.put g.nx x⟩ T = some (b, ts) := fun x sl => vw_keep (kp x) h
  refine ok_lcMap (f := rowOf g3) (by simp) rfl (src_items rfl (hv4 _ _)) (hv4 _ _) (by rw [ha.len]; omega) ?_ ?_
  · intro t ht P hP
    obtain ⟨i, hi⟩ := List.getElem?_of_mem ht
    obtain ⟨b', row, h1, h2⟩ := ha.ex i t hi
    rw [ok_bd, ok_h1C, ok_hdN]
    refine ⟨_, vw_keep (kp _) h2, ?_⟩
    have e5 : rowOf g3 t = dInts row := by unfold rowOf; rw [h2]; rfl
    rw [e5] at hP
    simp only [ok_listF, ok_frzI]
    exact hP
  · rw [ha.map, ok_frzR]
    refine ok_rdv rfl ?_
    rw [onX_box]
    refine ⟨_, _, put_self, ⟨by simp, by simp [putFA]⟩, ?_⟩
    rw [seqQ_nx, ok_setFldM, ok_bd, ok_ret, ok_boxC]
    refine ok_rdv rfl ?_
    rw [onX_box]
    rw [putF2]
    have ne : ∀ x y, g.nx ≠ ((g3.put g.nx x).put g.nx y).nx := fun x y => by rw [put_nx, put_nx]; omega
    refine ⟨_, _, (by rw [add_cs]; exact (if_neg (ne _ _)).trans put_self), ⟨by simp, by simp⟩, ?_⟩
    rw [endQ_nx, putF3]
    refine ⟨rfl, q _ ⟨?_, ⟨g3.nx, ?_⟩, ?_⟩⟩
    · simp [put_nx, add_nx, nx1]
    · exact put_self
    · intro r hr'
      have n1 : r ≠ g.nx := by omega
      have n2 : ∀ x y, r ≠ ((g3.put g.nx x).put g.nx y).nx := fun x y => by rw [put_nx, put_nx]; omega
      show (G.put _ _ _).cs r = _
      rw [put_cs, if_neg n1, add_cs]
      refine (if_neg (n2 _ _)).trans ?_
      refine ((put_cs.trans (if_neg n1)).trans (put_cs.trans (if_neg n1))).trans ?_
      exact o1 r hr'
end Lw
end

section
/-! K01s: what a book tells. -/
namespace Lw
open PySem L2 Mm
theorem look_gates {x y z : D} : lookA "own_gates" ([("own_gates", x), ("own_ways", y), ("own_known", z)] : List (Str × D)) = some x := by simp [lookA]
theorem look_ways {x y z : D} : lookA "own_ways" ([("own_gates", x), ("own_ways", y), ("own_known", z)] : List (Str × D)) = some y := by
  have n1 : ("own_ways" : Str) ≠ "own_gates" := by decide
  simp only [lookA, if_neg n1, if_true]
theorem gates_ok {g : G} {p : Nat} {n : Int} {rs : List (List Int)} (h : IsB g p n rs) : Ok (m_Book_gates [.box p] ⟨[], g⟩) fun d S => S.g = g ∧ d = .int n := by
  obtain ⟨k, hk⟩ := h
  unfold m_Book_gates
  rw [ok_runF]
  unfold b_Book_gates
  have e : slots 1 [.box p] = [.val (.box p)] := rfl
  rw [e, ok_retM, ok_fldM]
  refine ok_rdv rfl ?_
  rw [onX_box]
  exact ⟨_, _, _, hk, by simp, look_gates, rfl, rfl⟩
/-- boxes that hold rows -/
structure Bxs (g0 g : G) (ps : List Nat) (rs : List (List Int)) : Prop where
  len : ps.length = rs.length
  ex : ∀ (i : Nat) (p : Nat), ps[i]? = some p → ∃ row, rs[i]? = some row ∧ g.cs p = some (.lst (row.map D.int)) ∧ g0.nx ≤ p ∧ p < g.nx
def WyI (g0 : G) (rs : List (List Int)) (i : Nat) (acc : List D) (g : G) : Prop := ∃ ps : List Nat, acc = ps.map D.box ∧ Bxs g0 g ps (rs.take i) ∧ g0.nx ≤ g.nx ∧ ∀ q, q < g0.nx → g.cs q = g0.cs q
theorem box_rows {sl : List Slot} {g : G} {rs : List (List Int)} {src : M Src} {n : Nat} {S0 : Sg} {ds : List D} {ok : Sg → Prop} {Q : Cell → Sg → Prop} (hn : n < sl.length) (hno : noOwn sl [n] = true) (hl : rs.length ≤ 100000) (hdl : ds.length = rs.length)
    (hs : ∀ P : Src → Sg → Prop, P ⟨ds, ok⟩ ⟨sl, g⟩ → Ok (src S0) P) (hok : ∀ g', g.nx ≤ g'.nx → (∀ q, q < g.nx → g'.cs q = g.cs q) → ok ⟨sl, g'⟩)
    (he : ∀ (i : Nat) (d : D) (row : List Int) (g' : G) (P : Cell → Sg → Prop), ds[i]? = some d → rs[i]? = some row → g.nx ≤ g'.nx → (∀ q, q < g.nx → g'.cs q = g.cs q) → P (.lst (row.map D.int)) ⟨sl.set n (.val d), g'⟩ → Ok (h1C (hdN n) listF ⟨sl.set n (.val d), g'⟩) P)
    (q : ∀ ps g', Bxs g g' ps rs → g.nx ≤ g'.nx → (∀ q, q < g.nx → g'.cs q = g.cs q) → Q (.lst (ps.map D.box)) ⟨sl, g'⟩) : Ok (lcM src (.nm n) [n] yesM (bd (h1C (hdN n) listF) boxC) S0) Q := by
  have hsl := sizeLine_eq
  show Ok (lcM (fun _ => src S0) (.nm n) [n] yesM (bd (h1C (hdN n) listF) boxC) ⟨sl, g⟩) Q
  refine ok_lc1 hn hno (hs _ ⟨rfl, WyI g rs, ?_, ⟨[], rfl, ⟨by simp, by simp⟩, Nat.le_refl _, fun _ _ => rfl⟩, ?_, ?_⟩)
  · rintro i acc g' _ ⟨ps, _, _, h1, h2⟩
    exact hok g' h1 h2
  · rintro i d acc g' hd ⟨ps, rfl, hb, h1, h2⟩
    have hd : ds[i]? = some d := hd
    have hi : i < rs.length := by rw [← hdl]; exact (List.getElem?_eq_some_iff.mp hd).1
    have hr : rs[i]? = some rs[i] := List.getElem?_eq_getElem hi
    refine ok_ret.mpr ⟨rfl, ?_⟩
    rw [if_pos rfl, ok_bd]
    refine he i d rs[i] g' _ hd hr h1 h2 ?_
    rw [ok_boxC]
    have hpl := hb.len
    rw [List.length_take] at hpl
    refine ⟨rfl, by rw [List.length_map]; omega, ps ++ [g'.nx], by simp, ⟨by simp; omega, ?_⟩, by rw [add_nx]; omega, fun q hq => ?_⟩
    · intro j p hp
      by_cases hj : j < ps.length
      · rw [List.getElem?_append_left hj] at hp
        obtain ⟨row, k1, k2, k3, k4⟩ := hb.ex j p hp
        refine ⟨row, ?_, by rw [add_cs, if_neg (by omega)]; exact k2, k3, by rw [add_nx]; omega⟩
        rw [take_snoc hr, List.getElem?_append_left (by rw [List.length_take]; omega)]
        exact k1
      · rw [List.getElem?_append_right (by omega)] at hp
        have hj2 : j - ps.length = 0 := by
          have := (List.getElem?_eq_some_iff.mp hp).1
          simp at this
          omega
        rw [hj2] at hp
        simp at hp
        subst hp
        refine ⟨rs[i], ?_, by rw [add_cs, if_pos rfl], h1, by rw [add_nx]; omega⟩
        rw [take_snoc hr, List.getElem?_append_right (by rw [List.length_take]; omega), List.length_take]
        have : j - min i rs.length = 0 := by omega
        rw [this]; rfl
    · show (g'.add _).cs q = _
      rw [add_cs, if_neg (by omega)]
      exact h2 q hq
  · rintro acc g' ⟨ps, rfl, hb, h1, h2⟩
    have e : rs.take (⟨ds, ok⟩ : Src).ds.length = rs := by show rs.take ds.length = rs; rw [hdl, List.take_length]
    rw [e] at hb
    exact q ps g' hb h1 h2

theorem ways_ok {g : G} {p : Nat} {n : Int} {rs : List (List Int)} (h : IsB g p n rs) (hl : rs.length ≤ 100000) : Ok (m_Book_ways [.box p] ⟨[], g⟩) fun d S => ∃ (ps : List Nat) (q : Nat), d = .box q ∧ S.g.cs q = some (.lst (ps.map D.box)) ∧ Bxs g S.g ps rs ∧ g.nx ≤ q ∧ q < S.g.nx ∧ q ∉ ps ∧ g.nx ≤ S.g.nx ∧ ∀ r, r < g.nx → S.g.cs r = g.cs r := by
  obtain ⟨k, hk⟩ := h
  unfold m_Book_ways
  rw [ok_runF]
  unfold b_Book_ways
  have e : slots 2 [.box p] = [.val (.box p), .emp] := rfl
  rw [e, ok_retM, ok_bd]
  refine box_rows (g := g) (sl := [.val (.box p), .emp]) (rs := rs) (ds := rs.map dInts) (ok := fun S' => vwD S' (dRows rs) = some (true, rs.map dInts)) (by simp) rfl hl (by rw [List.length_map]) ?_ (fun _ _ _ => vwD_dR) ?_ ?_
  · intro P hP
    rw [ok_bd, ok_fldM]
    refine ok_rdv rfl ?_
    rw [onX_box]
    refine ⟨_, _, _, hk, by simp, look_ways, ?_⟩
    rw [ok_itemsD, vwD_dR, onO_some]
    exact hP
  · intro i d row g' P hd hr _ _ hP
    obtain ⟨row', h1, rfl, _⟩ := rows_get hd
    rw [hr] at h1; cases h1
    rw [ok_h1C, ok_hdN]
    refine ⟨(true, row.map D.int), rfl, ?_⟩
    simp only [ok_listF]
    exact hP
  · intro ps g' hb h1 h2
    rw [ok_boxC, endQ_rt]
    refine ⟨ps, g'.nx, rfl, by rw [add_cs, if_pos rfl], ⟨hb.len, fun i p hp => ?_⟩, h1, by rw [add_nx]; omega, fun hm => ?_, by rw [add_nx]; omega, fun r hr => ?_⟩
    · obtain ⟨row, k1, k2, k3, k4⟩ := hb.ex i p hp
      exact ⟨row, k1, by rw [add_cs, if_neg (by omega)]; exact k2, k3, by rw [add_nx]; omega⟩
    · obtain ⟨i, hi⟩ := List.getElem?_of_mem hm
      obtain ⟨row, k1, k2, k3, k4⟩ := hb.ex i _ hi
      omega
    · show (g'.add _).cs r = _
      rw [add_cs, if_neg (by omega)]
      exact h2 r hr
end Lw
end

section
/-! K01t: books compared. -/
namespace Lw
open PySem L2 Mm
theorem isi_own {S : Sg} {r : Nat} {fs : List (Str × D)} (h : S.g.cs r = some (.ins "Book" fs)) : isiF fns clss [.box r, .glo "Book"] S = .ok (.bl true) S := by
  have k1 : ("Book" : Str) ∈ clss := by simp [clss]
  simp [isiF, tyD, clD, h, k1, kitT]
theorem isi_no {S : Sg} {d : D} {a : String} (h : tyD fns clss S d = some (.bt a)) : isiF fns clss [d, .glo "Book"] S = .ok (.bl false) S := by
  have k1 : ("Book" : Str) ∈ clss := by simp [clss]
  simp [isiF, clD, h, k1, kitT]
theorem eq_book {g : G} {p q : Nat} {n m : Int} {rs ts : List (List Int)} (h : IsB g p n rs) (h' : IsB g q m ts) : Ok (m_Book_eq [.box p, .box q] ⟨[], g⟩) fun d S => S.g = g ∧ d = .bl (decide (n = m) && decide (rs = ts)) := by
  obtain ⟨k, hk⟩ := h
  obtain ⟨k', hk'⟩ := h'
  unfold m_Book_eq
  rw [ok_runF]
  unfold b_Book_eq
  have e : slots 2 [.box p, .box q] = [.val (.box p), .val (.box q)] := rfl
  have hg : ∀ (sl : List Slot), (⟨sl, g⟩ : Sg).g.cs q = some (.ins "Book" (bkF m ts k')) := fun _ => hk'
  rw [e, ok_seqM, ok_ifM, ok_notM, ok_bd, isi_of]
  refine ok_rdv rfl ?_
  rw [ok_ret, ok_eqn (isi_own (hg _)), ok_asB, if_neg (by decide), ok_ret, seqQ_nx, ok_retM, ok_andV, ok_bop, ok_fldM]
  refine ok_rdv rfl ?_
  rw [onX_box]
  refine ⟨_, _, _, hk, by simp, look_gates, ?_⟩
  rw [ok_fldM]
  refine ok_rdv rfl ?_
  rw [onX_box]
  refine ⟨_, _, _, hk', by simp, look_gates, ?_⟩
  rw [ok_eqI, onB_bl]
  by_cases hn : n = m
  · rw [if_pos (by simpa using hn), ok_bop, ok_fldM]
    refine ok_rdv rfl ?_
    rw [onX_box]
    refine ⟨_, _, _, hk, by simp, look_ways, ?_⟩
    rw [ok_fldM]
    refine ok_rdv rfl ?_
    rw [onX_box]
    refine ⟨_, _, _, hk', by simp, look_ways, ?_⟩
    rw [ok_eqRs, onB_bl, endQ_rt]
    exact ⟨rfl, by simp [hn]⟩
  · rw [if_neg (by simpa using hn), endQ_rt]
    exact ⟨rfl, by simp [hn]⟩
theorem eq_no {g : G} {p : Nat} {d : D} {a : String} (h : ∀ sl, tyD fns clss ⟨sl, g⟩ d = some (.bt a)) : Ok (m_Book_eq [.box p, d] ⟨[], g⟩) fun d S => S.g = g ∧ d = .bl false := by
  unfold m_Book_eq
  rw [ok_runF]
  unfold b_Book_eq
  have e : slots 2 [.box p, d] = [.val (.box p), .val d] := rfl
  rw [e, ok_seqM, ok_ifM, ok_notM, ok_bd, isi_of]
  refine ok_rdv rfl ?_
  rw [ok_ret, ok_eqn (isi_no (h _)), ok_asB, if_pos (by decide), ok_retM, ok_ret, seqQ_rt, endQ_rt]
  exact ⟨rfl, rfl⟩
theorem look_eq {n : Int} {rs : List (List Int)} {k : Nat} : lookA "__eq__" (bkF n rs k) = none := by
  have n1 : ("__eq__" : Str) ≠ "own_gates" := by decide
  have n2 : ("__eq__" : Str) ≠ "own_ways" := by decide
  have n3 : ("__eq__" : Str) ≠ "own_known" := by decide
  simp only [bkF, lookA, if_neg n1, if_neg n2, if_neg n3]
/-- == of two books, by their slots -/
theorem eqB {sl : List Slot} {g : G} {p q : Nat} {n m : Int} {rs ts : List (List Int)} {a b : M D} {Q : D → Sg → Prop} (ha : ∀ P : D → Sg → Prop, P (.box p) ⟨sl, g⟩ → Ok (a ⟨sl, g⟩) P) (hb : ∀ P : D → Sg → Prop, P (.box q) ⟨sl, g⟩ → Ok (b ⟨sl, g⟩) P) (h : IsB g p n rs) (h' : IsB g q m ts)
    (hQ : Q (.bl (decide (n = m) && decide (rs = ts))) ⟨sl, g⟩) : Ok (eqOwnM fns clss "Book" m_Book_eq a b ⟨sl, g⟩) Q := by
  have h0 := h
  have h0' := h'
  obtain ⟨k, hk⟩ := h
  obtain ⟨k', hk'⟩ := h'
  have k1 : ("Book" : Str) ∈ clss := by simp [clss]
  rw [ok_eqOwnM]
  refine ha _ (hb _ ?_)
  rw [ok_recM hk look_eq]
  refine ⟨by simp [tyD, hk', k1], ?_⟩
  refine (eq_book h0 h0').imp ?_
  rintro d ⟨_, g1⟩ ⟨e1, rfl⟩
  have e1 : g1 = g := e1
  subst e1
  exact hQ
theorem eqN {sl : List Slot} {g : G} {p : Nat} {n : Int} {rs : List (List Int)} {d : D} {t : String} {a b : M D} {Q : D → Sg → Prop} (ha : ∀ P : D → Sg → Prop, P (.box p) ⟨sl, g⟩ → Ok (a ⟨sl, g⟩) P) (hb : ∀ P : D → Sg → Prop, P d ⟨sl, g⟩ → Ok (b ⟨sl, g⟩) P) (h : IsB g p n rs) (h' : ∀ sl, tyD fns clss ⟨sl, g⟩ d = some (.bt t))
    (hQ : Q (.bl false) ⟨sl, g⟩) : Ok (eqOwnM fns clss "Book" m_Book_eq a b ⟨sl, g⟩) Q := by
  obtain ⟨k, hk⟩ := h
  rw [ok_eqOwnM]
  refine ha _ (hb _ ?_)
  rw [ok_recM hk look_eq]
  refine ⟨by rw [h' sl]; rfl, ?_⟩
  refine (eq_no h').imp ?_
  rintro d ⟨_, g1⟩ ⟨e1, rfl⟩
  have e1 : g1 = g := e1
  subst e1
  exact hQ
end Lw
end

section
/-! K01u: things the same. -/
namespace Lw
open PySem L2 Mm
theorem isi_int3 {S : Sg} {i : Int} : isiF fns clss [.int i, .tup [.ty "list", .ty "tuple", .ty "dict"]] S = .ok (.bl false) S := by
  have k1 : "list" ∈ known := by decide
  have k2 : "tuple" ∈ known := by decide
  have k3 : "dict" ∈ known := by decide
  have t1 : isT "int" "list" = false := by decide
  have t2 : isT "int" "tuple" = false := by decide
  have t3 : isT "int" "dict" = false := by decide
  simp [isiF, tyD, clDs, clD, k1, k2, k3, kitTs, kitT, t1, t2, t3]
/-- same all the way down -/
inductive SameR (g : G) : Nat → D → D → Prop
  | int (k : Nat) (i : Int) : SameR g (k + 1) (.int i) (.int i)
  | seq (k : Nat) (f d : D) (b : Bool) (fs ds : List D) (h1 : vwD ⟨[], g⟩ f = some (b, fs)) (h2 : vwD ⟨[], g⟩ d = some (b, ds)) (hl : fs.length = ds.length) (hs : fs.length ≤ 100000) (ex : ∀ (i : Nat) (x y : D), fs[i]? = some x → ds[i]? = some y → SameR g k x y) : SameR g (k + 1) f d
def SaI (g : G) (f d : D) (i : Nat) (acc : List D) (S : Sg) : Prop := S.g = g ∧ S.sl = [.val f, .val d, .emp, .emp] ∧ acc = (List.replicate i true).map D.bl
theorem same_ok {g : G} : ∀ (k fuel : Nat) (f d : D), SameR g k f d → k ≤ fuel → Ok (m_l_same fuel [f, d] ⟨[], g⟩) fun x S => S.g = g ∧ x = .bl true := by
  have hsl := sizeLine_eq
  intro k
  induction k with
  | zero => intro fuel f d h; cases h
  | succ k ih =>
    intro fuel f d h hk
    obtain ⟨n, rfl⟩ := Nat.exists_eq_succ_of_ne_zero (by omega : fuel ≠ 0)
    have e : m_l_same (n + 1) = runF 4 (b_l_same (m_l_same n)) := rfl
    rw [Nat.succ_eq_add_one, e, ok_runF]
    unfold b_l_same
    cases h with
    | int _ i =>
      have e : slots 4 [.int i, .int i] = [.val (.int i), .val (.int i), .emp, .emp] := rfl
      have kb : "bool" ∈ known := by decide
      have kd : "dict" ∈ known := by decide
      have tb : isT "int" "bool" = false := by decide
      have td : isT "int" "dict" = false := by decide
      rw [e, ok_seqM, ok_ifM, ok_bd, isi_of]
      refine ok_rdv rfl ?_
      simp only [ok_tupM, ok_consM, ok_ret, ok_nilM, ok_eqn isi_seqs_int, ok_asB]
      refine ⟨by simp [hsl], ?_⟩
      rw [if_neg (by decide), seqQ_nx, ok_seqM, ok_ifM, ok_bd, isi_of]
      refine ok_rdv rfl ?_
      rw [ok_ret, ok_eqn (isi_int kd), td, ok_asB, if_neg (by decide), ok_ret, seqQ_nx, ok_seqM, ok_ifM, ok_orM, ok_bd, isi_of]
      refine ok_rdv rfl ?_
      rw [ok_ret, ok_eqn (isi_int kb), tb, ok_asB, if_neg (by decide), ok_bd, isi_of]
      refine ok_rdv rfl ?_
      rw [ok_ret, ok_eqn (isi_int kb), tb, ok_asB, if_neg (by decide), ok_ret, seqQ_nx, ok_retM, ok_andV, ok_notV, isi_of]
      refine ok_rdv rfl ?_
      simp only [ok_tupM, ok_consM, ok_ret, ok_nilM, ok_eqn isi_int3, onB_bl]
      refine ⟨by simp [hsl], ?_⟩
      rw [if_pos (by decide), ok_bop]
      refine ok_rdv rfl (ok_rdv rfl ?_)
      rw [ok_eqI, onB_bl, endQ_rt]
      exact ⟨rfl, by simp⟩
    | seq _ _ _ b fs ds h1 h2 hl hs ex =>
      have e : slots 4 [f, d] = [.val f, .val d, .emp, .emp] := rfl
      have h1' : ∀ sl, vwD ⟨sl, g⟩ f = some (b, fs) := fun sl => by rw [vwD_sl (sl' := [])]; exact h1
      have h2' : ∀ sl, vwD ⟨sl, g⟩ d = some (b, ds) := fun sl => by rw [vwD_sl (sl' := [])]; exact h2
      have kl : "list" ∈ known := by decide
      have kt : "tuple" ∈ known := by decide
      rw [e, ok_seqM, ok_ifM, ok_bd, isi_of]
      refine ok_rdv rfl ?_
      simp only [ok_tupM, ok_consM, ok_ret, ok_nilM, ok_eqn (isi_seqs (h2' _)), ok_asB]
      refine ⟨by simp [hsl], ?_⟩
      rw [if_pos trivial, ok_seqM, ok_ifM, ok_orM, ok_bopT, isi_of]
      refine ok_rdv rfl ?_
      rw [ok_ret, ok_eqn (isi_seq (h1' _) kl), isi_of]
      refine ok_rdv rfl ?_
      rw [ok_ret, ok_eqn (isi_seq (h2' _) kl), ok_neB, ok_asB, if_neg (by simp), ok_bopT, isi_of]
      refine ok_rdv rfl ?_
      rw [ok_ret, ok_eqn (isi_seq (h1' _) kt), isi_of]
      refine ok_rdv rfl ?_
      rw [ok_ret, ok_eqn (isi_seq (h2' _) kt), ok_neB, ok_asB, if_neg (by simp), ok_ret, seqQ_nx, ok_retM, ok_andV, ok_bop, ok_h1, ok_hdN]
      refine ⟨_, h1' _, ?_⟩
      simp only [ok_lenF, ok_h1]
      rw [ok_hdN]
      refine ⟨_, h2' _, ?_⟩
      simp only [ok_lenF, ok_eqI, onB_bl]
      rw [if_pos (by simp [hl]), ok_hdE, ok_bd]
      refine ok_lcM ?_
      rw [ok_bd]
      refine ok_rdv rfl ?_
      rw [ok_bd]
      refine ok_rdv rfl ?_
      have ez : ∀ sl, zipS f d ⟨sl, g⟩ = .ok ⟨zipD fs ds, fun S' => vwD S' f = some (b, fs) ∧ vwD S' d = some (b, ds)⟩ ⟨sl, g⟩ := fun sl => by
        unfold zipS
        simp only [h1', h2', if_true]
      rw [ok_eqn (ez _)]
      have hzl : (zipD fs ds).length = fs.length := by unfold zipD; rw [List.length_zipWith]; omega
      refine ⟨⟨rfl, by simp [Tg.ix, Tg.ixs]⟩, SaI g f d, ?_, ⟨rfl, rfl, rfl⟩, ?_, ?_⟩
      · rintro i acc ⟨sl, g'⟩ _ ⟨e1, e2, _⟩
        have e1 : g' = g := e1
        subst e1
        exact ⟨h1' sl, h2' sl⟩
      · rintro i p acc ⟨sl, g'⟩ hp ⟨e1, e2, rfl⟩
        have e1 : g' = g := e1
        subst e1
        have e2 : sl = [.val f, .val d, .emp, .emp] := e2
        subst e2
        have hp : (zipD fs ds)[i]? = some p := hp
        have hi : i < fs.length := by rw [← hzl]; exact (List.getElem?_eq_some_iff.mp hp).1
        have ef : fs[i]? = some fs[i] := List.getElem?_eq_getElem hi
        have ed : ds[i]? = some (ds[i]'(by omega)) := List.getElem?_eq_getElem (by omega)
        have epp : p = .tup [fs[i], ds[i]'(by omega)] := by
          unfold zipD at hp
          rw [List.getElem?_zipWith, ef, ed] at hp
          simp at hp
          exact hp.symm
        subst epp
        refine ⟨⟨[.val f, .val d, .val fs[i], .val (ds[i]'(by omega))], g'⟩, rfl, ?_⟩
        refine ok_ret.mpr ?_
        rw [if_pos rfl, ok_callM, ok_consM]
        refine ok_rdv rfl ?_
        rw [ok_consM]
        refine ok_rdv rfl ?_
        rw [ok_nilM]
        refine (ih n _ _ (ex i _ _ ef ed) (by omega)).imp ?_
        rintro x ⟨_, g2⟩ ⟨e3, rfl⟩
        have e3 : g2 = g' := e3
        subst e3
        refine ⟨by simp; omega, rfl, rfl, ?_⟩
        rw [List.replicate_succ', List.map_append]
        rfl
      · rintro acc ⟨sl, g'⟩ ⟨e1, e2, rfl⟩
        rw [ok_frzC, vw_lst, onO_some, ok_allF]
        simp only [onB_bl, seqQ_rt, endQ_rt]
        refine ⟨e1, by simp⟩
end Lw
end

section
/-! K01v: lists for tuples, or tuples for lists. -/
namespace Lw
open PySem L2 Mm
def sq (b : Bool) (ds : List D) : D := if b = true then .lst ds else .tup ds
theorem vw_sq {S : Sg} {b : Bool} {ds : List D} : vwD S (sq b ds) = some (b, ds) := by cases b <;> rfl
/-- of ints, so deep at most, with so many lists at most -/
inductive Shp : Nat → Nat → D → Prop
  | int (k c : Nat) (i : Int) : Shp (k + 1) c (.int i)
  | seq (k c c' : Nat) (b : Bool) (ds : List D) (hl : ds.length ≤ 100000) (hd : ∀ d ∈ ds, Shp k c d) (hc : ds.length * c + 1 ≤ c') : Shp (k + 1) c' (sq b ds)
/-- the same loosely -/
inductive Lse : Nat → D → D → Prop
  | int (k : Nat) (i : Int) : Lse (k + 1) (.int i) (.int i)
  | seq (k : Nat) (b b' : Bool) (ds ts : List D) (hl : ds.length = ts.length) (ex : ∀ (i : Nat) (d t : D), ds[i]? = some d → ts[i]? = some t → Lse k d t) : Lse (k + 1) (sq b ds) (sq b' ts)
theorem draw_k {g : G} {r r0 : Nat} {c many : Int} {Q : D → Sg → Prop} (s : St g r r0 c) (hc : c ≤ 100000000000000) (h1 : 1 ≤ many) (h2 : many ≤ 4611686018427387904)
    (hQ : ∀ z sl g', 0 ≤ z → z < many → St g' r r0 (c + 1) → Fr r r0 g g' → Q (.int z) ⟨sl, g'⟩) : Ok (m_l_draw [.box r, .int many] ⟨[], g⟩) Q :=
  (draw_ok s hc h1 h2).imp fun d S ⟨_, hs, hf, z, e, z1, z2⟩ => by subst e; exact hQ z S.sl S.g z1 z2 hs hf
def LsI (g0 : G) (r r0 : Nat) (c : Int) (c1 k : Nat) (ds : List D) (i : Nat) (acc : List D) (g : G) : Prop := acc.length = i ∧ St g r r0 (c + (i * c1 : Nat)) ∧ Fr r r0 g0 g ∧ ∀ (j : Nat) (d t : D), ds[j]? = some d → acc[j]? = some t → Lse k d t
theorem loose_ok {r r0 : Nat} : ∀ (k fuel : Nat) (c' : Nat) (d : D) (g : G) (c : Int), Shp k c' d → k ≤ fuel → St g r r0 c → c + c' ≤ 100000000000000 →
    Ok (m_l_loose fuel [.box r, d] ⟨[], g⟩) fun t S => St S.g r r0 (c + c') ∧ Fr r r0 g S.g ∧ Lse k d t := by
  have hsl := sizeLine_eq
  intro k
  induction k with
  | zero => intro fuel c' d g c h; cases h
  | succ k ih =>
    intro fuel c' d g c h hk s hc
    obtain ⟨n, rfl⟩ := Nat.exists_eq_succ_of_ne_zero (by omega : fuel ≠ 0)
    have e : m_l_loose (n + 1) = runF 4 (b_l_loose (m_l_loose n)) := rfl
    rw [Nat.succ_eq_add_one, e, ok_runF]
    unfold b_l_loose
    cases h with
    | int _ _ i =>
      have e : slots 4 [.box r, .int i] = [.val (.box r), .val (.int i), .emp, .emp] := rfl
      rw [e, ok_seqM, ok_ifM, ok_bd, isi_of]
      refine ok_rdv rfl ?_
      simp only [ok_tupM, ok_consM, ok_ret, ok_nilM, ok_eqn isi_seqs_int, ok_asB]
      refine ⟨by simp [hsl], ?_⟩
      rw [if_neg (by decide), seqQ_nx, ok_retM]
      refine ok_rdv rfl ?_
      rw [endQ_rt]
      exact ⟨s.mono (by omega), .refl g, .int _ _⟩
    | seq _ c1 _ b ds hl hds hcc =>
      have e : slots 4 [.box r, sq b ds] = [.val (.box r), .val (sq b ds), .emp, .emp] := rfl
      rw [e, ok_seqM, ok_ifM, ok_bd, isi_of]
      refine ok_rdv rfl ?_
      simp only [ok_tupM, ok_consM, ok_ret, ok_nilM, ok_eqn (isi_seqs vw_sq), ok_asB]
      refine ⟨by simp [hsl], ?_⟩
      rw [if_pos trivial, ok_seqM, ok_setM, ok_bd]
      refine ok_lc1 (by simp) rfl ?_
      rw [ok_bd]
      refine ok_rdv rfl ?_
      rw [ok_itemsD, vw_sq, onO_some]
      refine ⟨rfl, LsI g r r0 c c1 k ds, fun _ _ _ _ _ => vw_sq, ⟨rfl, by simpa using s, .refl g, by simp⟩, ?_, ?_⟩
      · rintro i d acc g1 hd ⟨h1, s1, f1, h4⟩
        have hd : ds[i]? = some d := hd
        have hi : i < ds.length := (List.getElem?_eq_some_iff.mp hd).1
        refine ok_ret.mpr ⟨rfl, ?_⟩
        rw [if_pos rfl, ok_callM, ok_consM]
        refine ok_rdv rfl ?_
        rw [ok_consM]
        refine ok_rdv rfl ?_
        rw [ok_nilM]
        have hm : (i + 1) * c1 ≤ ds.length * c1 := Nat.mul_le_mul_right _ hi
        have hm' : (i + 1) * c1 = i * c1 + c1 := Nat.succ_mul _ _
        refine (ih n c1 d g1 _ (hds d (List.mem_of_getElem? hd)) (by omega) s1 (by omega)).imp ?_
        rintro t ⟨_, g2⟩ ⟨s2, f2, hL⟩
        refine ⟨rfl, by omega, by simp [h1], ?_, f1.trans f2, ?_⟩
        · have e : c + (((i + 1) * c1 : Nat) : Int) = c + ((i * c1 : Nat) : Int) + (c1 : Int) := by omega
          rw [e]; exact s2
        · intro j d' t' hd' ht'
          by_cases hj : j < acc.length
          · rw [List.getElem?_append_left hj] at ht'
            exact h4 j d' t' hd' ht'
          · rw [List.getElem?_append_right (by omega)] at ht'
            have h0 : j - acc.length = 0 := by
              have := (List.getElem?_eq_some_iff.mp ht').1
              simp at this
              omega
            rw [h0] at ht'
            simp at ht'
            have : j = i := by omega
            subst this
            rw [hd] at hd'
            cases hd'
            subst ht'
            exact hL
      · rintro acc g1 ⟨h1, s1, f1, h4⟩
        have h1 : acc.length = ds.length := h1
        have s1 : St g1 r r0 (c + (ds.length * c1 : Nat)) := s1
        have fin : ∀ b' g2, St g2 r r0 (c + (ds.length * c1 : Nat) + 1) → Fr r r0 g1 g2 → St g2 r r0 (c + c') ∧ Fr r r0 g g2 ∧ Lse (k + 1) (sq b ds) (sq b' acc) := fun b' g2 s2 f2 => ⟨s2.mono (by omega), f1.trans f2, .seq _ _ _ _ _ h1.symm h4⟩
        rw [ok_frzC, seqQ_nx, ok_retM, ok_ifM, ok_bopT, ok_callM, ok_consM]
        refine ok_rdv rfl ?_
        simp only [ok_consM, ok_ret, ok_nilM]
        refine draw_k (many := 2) s1 (by omega) (by decide) (by decide) ?_
        intro z _ g2 z0 z1 s2 f2
        rw [ok_eqI, ok_asB]
        split
        · refine ok_rdv rfl ?_
          rw [seqQ_rt, endQ_rt]
          exact fin true g2 s2 f2
        · rw [ok_h1, ok_hdN]
          refine ⟨(true, acc), rfl, ?_⟩
          show Ok (tupleF (true, acc) _) _
          rw [ok_tupleF, seqQ_rt, endQ_rt]
          exact fin false g2 s2 f2
theorem shp_ints {ns : List Int} (h : ns.length ≤ 100000) : Shp 2 1 (dInts ns) := .seq 1 0 1 true _ (by rw [List.length_map]; exact h) (fun d hd => by obtain ⟨z, _, rfl⟩ := mem_intsD hd; exact .int _ _ _) (by omega)
theorem shp_rows {rs : List (List Int)} (h : rs.length ≤ 100000) (h2 : ∀ row ∈ rs, row.length ≤ 100000) : Shp 3 (rs.length + 1) (dRows rs) :=
  .seq 2 1 _ true _ (by rw [List.length_map]; exact h) (fun d hd => by obtain ⟨row, hr, rfl⟩ := mem_rows hd; exact shp_ints (h2 row hr)) (by rw [List.length_map]; omega)
theorem lse_sq {k : Nat} {d t : D} {b : Bool} {ds : List D} (h : Lse (k + 1) d t) (e : d = sq b ds) : ∃ b' ts, t = sq b' ts ∧ ds.length = ts.length ∧ ∀ (i : Nat) (d t : D), ds[i]? = some d → ts[i]? = some t → Lse k d t := by
  subst e
  generalize hd : sq b ds = d at h
  cases h with
  | int _ i => cases b <;> cases hd
  | seq _ b1 b' ds1 ts hl ex =>
    have e := hd
    have e1 : ds1 = ds := by
      have h1 : vwD ⟨[], g0⟩ (sq b1 ds1) = some (b1, ds1) := vw_sq
      rw [← e, vw_sq] at h1
      cases h1
      rfl
    subst e1
    exact ⟨b', ts, rfl, hl, ex⟩
theorem lse_int {k : Nat} {i : Int} {t : D} (h : Lse k (.int i) t) : t = .int i := by
  generalize hd : D.int i = d at h
  cases h with
  | int => rfl
  | seq _ b _ _ _ _ _ => cases b <;> cases hd
theorem lse_ints {k : Nat} {ns : List Int} {t : D} (h : Lse (k + 2) (dInts ns) t) : ∃ b, t = sq b (ns.map D.int) := by
  obtain ⟨b, ts, rfl, hl, ex⟩ := lse_sq (b := true) (ds := ns.map D.int) h rfl
  refine ⟨b, congrArg (sq b) ?_⟩
  apply List.ext_getElem?
  intro i
  cases e : ts[i]? with
  | none =>
    have h1 := List.getElem?_eq_none_iff.mp e
    exact (List.getElem?_eq_none_iff.mpr (by omega)).symm
  | some t =>
    have h1 := (List.getElem?_eq_some_iff.mp e).1
    have h2 : i < (ns.map D.int).length := by omega
    have h3 := ex i _ t (List.getElem?_eq_getElem h2) e
    rw [List.getElem?_eq_getElem h2]
    simp only [List.getElem_map] at h3 ⊢
    rw [lse_int h3]
theorem lse_rows {k : Nat} {rs : List (List Int)} {t : D} (h : Lse (k + 3) (dRows rs) t) : ∃ b ts, t = sq b ts ∧ ∀ g, Are g ts rs := by
  obtain ⟨b, ts, rfl, hl, ex⟩ := lse_sq (b := true) (ds := rs.map dInts) h rfl
  rw [List.length_map] at hl
  refine ⟨b, ts, rfl, fun g => ⟨hl.symm, fun i t ht => ?_⟩⟩
  have h1 : i < rs.length := by rw [hl]; exact (List.getElem?_eq_some_iff.mp ht).1
  have h2 : (rs.map dInts)[i]? = some (dInts rs[i]) := by rw [List.getElem?_map, List.getElem?_eq_getElem h1]; rfl
  obtain ⟨b', rfl⟩ := lse_ints (ex i _ t h2 ht)
  exact ⟨b', rs[i], List.getElem?_eq_getElem h1, vw_sq⟩
end Lw
end

section
/-! K01w: a book tells right. -/
namespace Lw
open PySem L2 Mm
/-- only new things -/
structure Ext (g g' : G) : Prop where
  nx : g.nx ≤ g'.nx
  cs : ∀ q, q < g.nx → g'.cs q = g.cs q
theorem Ext.refl (g : G) : Ext g g := ⟨Nat.le_refl _, fun _ _ => rfl⟩
theorem Ext.trans {a b c : G} (h : Ext a b) (k : Ext b c) : Ext a c := ⟨Nat.le_trans h.nx k.nx, fun q hq => (k.cs q (Nat.lt_of_lt_of_le hq h.nx)).trans (h.cs q hq)⟩
theorem Ext.put {a b : G} {q : Nat} {x : Cell} (h : Ext a b) (hq : a.nx ≤ q) : Ext a (b.put q x) := ⟨h.nx, fun p hp => by rw [put_cs, if_neg (by omega)]; exact h.cs p hp⟩
theorem Ext.add {a b : G} {x : Cell} (h : Ext a b) : Ext a (b.add x) := ⟨by rw [add_nx]; have := h.nx; omega, fun p hp => by rw [add_cs, if_neg (by have := h.nx; omega)]; exact h.cs p hp⟩
theorem Ext.keep {a b : G} {q : Nat} {x : Cell} (h : Ext a b) (hq : q < a.nx) (e : a.cs q = some x) : b.cs q = some x := (h.cs q hq).trans e
theorem St.ext {g g' : G} {r r0 : Nat} {c : Int} (s : St g r r0 c) (h : Ext g g') : St g' r r0 c := by
  obtain ⟨⟨xs, a, n, k, e1, e2, hh⟩, hne, l1, l2⟩ := s
  exact ⟨⟨xs, a, n, k, h.keep l1 e1, h.keep l2 e2, hh⟩, hne, Nat.lt_of_lt_of_le l1 h.nx, Nat.lt_of_lt_of_le l2 h.nx⟩
theorem Ext.fr {g g' : G} {r r0 : Nat} (h : Ext g g') : Fr r r0 g g' := ⟨h.nx, fun q hq _ _ => h.cs q hq⟩
theorem NewB.ext {g g' : G} {n : Int} {rs : List (List Int)} (h : NewB g n rs g') : Ext g g' := ⟨by have := h.nx; omega, h.cs⟩
theorem IsB.ext {g g' : G} {p : Nat} {n : Int} {rs : List (List Int)} (h : IsB g p n rs) (e : Ext g g') (hp : p < g.nx) : IsB g' p n rs := by
  obtain ⟨k, hk⟩ := h
  exact ⟨k, e.keep hp hk⟩
theorem IsB.put {g : G} {p q : Nat} {n : Int} {rs : List (List Int)} {x : Cell} (h : IsB g p n rs) (hne : p ≠ q) : IsB (g.put q x) p n rs := by
  obtain ⟨k, hk⟩ := h
  exact ⟨k, by rw [put_cs, if_neg hne]; exact hk⟩
theorem Bxs.ext {g0 g g' : G} {ps : List Nat} {rs : List (List Int)} (h : Bxs g0 g ps rs) (e : Ext g g') : Bxs g0 g' ps rs := ⟨h.len, fun i p hp => by
  obtain ⟨row, h1, h2, h3, h4⟩ := h.ex i p hp
  exact ⟨row, h1, e.keep h4 h2, h3, Nat.lt_of_lt_of_le h4 e.nx⟩⟩
theorem Bxs.are {g0 g : G} {ps : List Nat} {rs : List (List Int)} (h : Bxs g0 g ps rs) : Are g (ps.map D.box) rs := ⟨by rw [List.length_map]; exact h.len, fun i t ht => by
  rw [List.getElem?_map] at ht
  cases e : ps[i]? with
  | none => rw [e] at ht; cases ht
  | some p =>
    rw [e] at ht
    cases ht
    obtain ⟨row, h1, h2, _⟩ := h.ex i p e
    exact ⟨true, row, h1, vwD_box h2⟩⟩
theorem same_ints {g : G} {k : Nat} {ns : List Int} {f : D} {b : Bool} (h : vwD ⟨[], g⟩ f = some (b, ns.map D.int)) (e : b = true) (hl : ns.length ≤ 100000) : SameR g (k + 2) f (dInts ns) := by
  subst e
  refine .seq _ _ _ true _ _ h vwD_dI rfl (by rw [List.length_map]; exact hl) fun i x y hx hy => ?_
  rw [hx] at hy
  cases hy
  obtain ⟨z, _, rfl⟩ := mem_intsD (List.mem_of_getElem? hx)
  exact .int _ _
theorem same_box {g g0 : G} {q : Nat} {ps : List Nat} {rs : List (List Int)} (h : g.cs q = some (.lst (ps.map D.box))) (hb : Bxs g0 g ps rs) (hl : rs.length ≤ 100000) (hr : ∀ row ∈ rs, row.length ≤ 100000) : SameR g 3 (.box q) (dRows rs) := by
  refine .seq _ _ _ true _ _ (vwD_box h) vwD_dR (by rw [List.length_map, List.length_map]; exact hb.len) (by rw [List.length_map, hb.len]; exact hl) fun i x y hx hy => ?_
  rw [List.getElem?_map] at hx hy
  cases e : ps[i]? with
  | none => rw [e] at hx; cases hx
  | some p =>
    rw [e] at hx
    cases hx
    obtain ⟨row, h1, h2, _⟩ := hb.ex i p e
    rw [h1] at hy
    cases hy
    exact same_ints (k := 0) (vwD_box h2) rfl (hr row (List.mem_of_getElem? h1))
/-- what a walk over new rows changes: just these -/
structure Chg (g1 : G) (ps : List Nat) (m : Nat) (g g' : G) : Prop where
  nx : g'.nx = g.nx
  cs : ∀ q, q ∉ ps → g'.cs q = g.cs q
  ex : ∀ p ∈ ps, ∃ xs, g'.cs p = some (.lst xs) ∧ xs.length ≤ m
theorem Chg.put {g1 g g' : G} {ps : List Nat} {m k : Nat} {p : Nat} {xs : List D} (h : Chg g1 ps m g g') (hp : p ∈ ps) (hk : m ≤ k) (hx : xs.length ≤ k) : Chg g1 ps k g (g'.put p (.lst xs)) := by
  refine ⟨h.nx, fun q hq => ?_, fun q hq => ?_⟩
  · rw [put_cs, if_neg (fun e => hq (by rw [e]; exact hp))]
    exact h.cs q hq
  · by_cases e : q = p
    · exact ⟨xs, by rw [put_cs, if_pos e], hx⟩
    · obtain ⟨ys, h1, h2⟩ := h.ex q hq
      exact ⟨ys, by rw [put_cs, if_neg e]; exact h1, by omega⟩
theorem Bxs.chg {g0 g : G} {ps : List Nat} {rs : List (List Int)} (h : Bxs g0 g ps rs) (hr : ∀ row ∈ rs, row.length ≤ 100000) : Chg g0 ps 100000 g g := ⟨rfl, fun _ _ => rfl, fun p hp => by
  obtain ⟨i, hi⟩ := List.getElem?_of_mem hp
  obtain ⟨row, h1, h2, _⟩ := h.ex i p hi
  exact ⟨_, h2, by rw [List.length_map]; exact hr row (List.mem_of_getElem? h1)⟩⟩
theorem boxes_get {ps : List Nat} {i : Nat} {d : D} (h : (ps.map D.box)[i]? = some d) : ∃ p ∈ ps, d = .box p ∧ i < ps.length := by
  rw [List.getElem?_map] at h
  cases e : ps[i]? with
  | none => rw [e] at h; cases h
  | some p =>
    rw [e] at h
    cases h
    exact ⟨p, List.mem_of_getElem? e, rfl, (List.getElem?_eq_some_iff.mp e).1⟩
theorem Bxs.lo {g0 g : G} {ps : List Nat} {rs : List (List Int)} (h : Bxs g0 g ps rs) {p : Nat} (hp : p ∈ ps) : g0.nx ≤ p ∧ p < g.nx := by
  obtain ⟨i, hi⟩ := List.getElem?_of_mem hp
  obtain ⟨row, h1, h2, h3, h4⟩ := h.ex i p hi
  exact ⟨h3, h4⟩
theorem app_of {d : D} {xs : List D} (h : xs.length < sizeLine) : appF [d] xs = some (.non, xs ++ [d]) := by
  show (if xs.length < sizeLine then some (D.non, xs ++ [d]) else none) = _
  rw [if_pos h]
theorem made_gates {sl : List Slot} {g : G} {p : Nat} {n : Int} {rs : List (List Int)} {m : M D} {Q : D → Sg → Prop} (hm : ∀ P : D → Sg → Prop, P (.box p) ⟨sl, g⟩ → Ok (m ⟨sl, g⟩) P) (h : IsB g p n rs) (q : Q (.int n) ⟨sl, g⟩) : Ok (methM "Book" "gates" m_Book_gates m nilM ⟨sl, g⟩) Q := by
  have h0 := h
  obtain ⟨k, hk⟩ := h
  have lk : lookA "gates" (bkF n rs k) = none := by
    have n1 : ("gates" : Str) ≠ "own_gates" := by decide
    have n2 : ("gates" : Str) ≠ "own_ways" := by decide
    have n3 : ("gates" : Str) ≠ "own_known" := by decide
    simp only [bkF, lookA, if_neg n1, if_neg n2, if_neg n3]
  rw [ok_methM]
  refine hm _ ?_
  rw [ok_recM hk lk, ok_nilM]
  refine (gates_ok h0).imp ?_
  rintro d ⟨_, g2⟩ ⟨e, rfl⟩
  have e : g2 = g := e
  subst e
  exact q
theorem made_ways {sl : List Slot} {g : G} {p : Nat} {n : Int} {rs : List (List Int)} {m : M D} {Q : D → Sg → Prop} (hm : ∀ P : D → Sg → Prop, P (.box p) ⟨sl, g⟩ → Ok (m ⟨sl, g⟩) P) (h : IsB g p n rs) (hl : rs.length ≤ 100000)
    (q : ∀ ps q g', g'.cs q = some (.lst (ps.map D.box)) → Bxs g g' ps rs → g.nx ≤ q → q < g'.nx → q ∉ ps → Ext g g' → Q (.box q) ⟨sl, g'⟩) : Ok (methM "Book" "ways" m_Book_ways m nilM ⟨sl, g⟩) Q := by
  have h0 := h
  obtain ⟨k, hk⟩ := h
  have lk : lookA "ways" (bkF n rs k) = none := by
    have n1 : ("ways" : Str) ≠ "own_gates" := by decide
    have n2 : ("ways" : Str) ≠ "own_ways" := by decide
    have n3 : ("ways" : Str) ≠ "own_known" := by decide
    simp only [bkF, lookA, if_neg n1, if_neg n2, if_neg n3]
  rw [ok_methM]
  refine hm _ ?_
  rw [ok_recM hk lk, ok_nilM]
  refine (ways_ok h0 hl).imp ?_
  rintro d ⟨_, g2⟩ ⟨ps, q1, rfl, k1, k2, k3, k4, k5, k6, k7⟩
  exact q ps q1 g2 k1 k2 k3 k4 k5 ⟨k6, k7⟩
/-- a walk over new rows, each gets late -/
theorem late_loop {g0 g : G} {sl : List Slot} {ps : List Nat} {rs : List (List Int)} {q : Nat} {Q : Fl → Sg → Prop} (h4 : 4 < sl.length) (hb : Bxs g0 g ps rs) (hr : ∀ row ∈ rs, row.length ≤ 100000) (hl : rs.length ≤ 100000) (hq : g.cs q = some (.lst (ps.map D.box))) (hn : q ∉ ps)
    (fin : ∀ x g', Chg g0 ps 200000 g g' → Q .nx ⟨sl.set 4 x, g'⟩) :
    Ok (forM (.nm 4) (exprM (mutM appF (plN 4) (consM (ret (.str "late")) nilM))) ⟨ps.map D.box, fun S' => vwD S' (.box q) = some (true, ps.map D.box)⟩ ⟨sl, g⟩) Q := by
  have hsl := sizeLine_eq
  have hbl := hb.len
  refine ok_forM (fun i S => ∃ x, S.sl = sl.set 4 x ∧ Chg g0 ps (100000 + i) g S.g) ?_ ⟨sl[4], by rw [List.set_getElem_self], hb.chg hr⟩ ?_ ?_
  · rintro i ⟨sl2, g2⟩ _ ⟨x, rfl, hc⟩
    exact vwD_box ((hc.cs q hn).trans hq)
  · rintro i d ⟨sl2, g2⟩ hd ⟨x, rfl, hc⟩
    obtain ⟨p, hp, rfl, hi⟩ := boxes_get hd
    have hc : Chg g0 ps (100000 + i) g g2 := hc
    obtain ⟨xs, k1, k2⟩ := hc.ex p hp
    refine ⟨_, asg_nm, ?_⟩
    rw [ok_exprM, ok_mutM, ok_plN]
    simp only [List.set_set, List.getElem?_set_self h4, getP_box, k1, onL_lst, ok_consM, ok_ret, ok_nilM, app_of (show xs.length < sizeLine by omega), onO_some, putP_box]
    exact ⟨_, rfl, hc.put hp (by omega) (by simp; omega)⟩
  · rintro ⟨sl2, g2⟩ ⟨x, rfl, hc⟩
    have hc : Chg g0 ps (100000 + (ps.map D.box).length) g g2 := hc
    rw [List.length_map] at hc
    exact fin x g2 ⟨hc.nx, hc.cs, fun p hp => by obtain ⟨xs, k1, k2⟩ := hc.ex p hp; exact ⟨xs, k1, by omega⟩⟩
theorem rev_loop {g0 g : G} {sl : List Slot} {ps : List Nat} {rs : List (List Int)} {q : Nat} {n : Int} {Q : Fl → Sg → Prop} (h4 : 4 < sl.length) (h1 : sl[1]? = some (.val (.int n))) (hb : Bxs g0 g ps rs) (hr : ∀ row ∈ rs, row.length ≤ 100000) (hl : rs.length ≤ 100000) (hq : g.cs q = some (.lst (ps.map D.box))) (hn : q ∉ ps)
    (fin : ∀ x g', Chg g0 ps 200000 g g' → Q .nx ⟨sl.set 4 x, g'⟩) :
    Ok (forM (.nm 4) (seqM (exprM (mutM revF (plN 4) nilM)) (exprM (mutM appF (plN 4) (consM (bop addI (rd 1) (ret (.int 3))) nilM)))) ⟨ps.map D.box, fun S' => vwD S' (.box q) = some (true, ps.map D.box)⟩ ⟨sl, g⟩) Q := by
  have hsl := sizeLine_eq
  have hbl := hb.len
  refine ok_forM (fun i S => ∃ x, S.sl = sl.set 4 x ∧ Chg g0 ps (100000 + i) g S.g) ?_ ⟨sl[4], by rw [List.set_getElem_self], hb.chg hr⟩ ?_ ?_
  · rintro i ⟨sl2, g2⟩ _ ⟨x, rfl, hc⟩
    exact vwD_box ((hc.cs q hn).trans hq)
  · rintro i d ⟨sl2, g2⟩ hd ⟨x, rfl, hc⟩
    obtain ⟨p, hp, rfl, hi⟩ := boxes_get hd
    have hc : Chg g0 ps (100000 + i) g g2 := hc
    obtain ⟨xs, k1, k2⟩ := hc.ex p hp
    have ne4 : (sl.set 4 (Slot.val (.box p)))[1]? = some (.val (.int n)) := by rw [List.getElem?_set_ne (by decide)]; exact h1
    refine ⟨_, asg_nm, ?_⟩
    rw [ok_seqM, ok_exprM, ok_mutM, ok_plN]
    simp only [List.set_set, List.getElem?_set_self h4, getP_box, k1, onL_lst, ok_nilM, revF, onO_some, putP_box, seqQ_nx, ok_exprM, ok_mutM, ok_plN, put_self, ok_consM, ok_bop]
    refine ok_rdv ne4 ?_
    simp only [ok_ret, ok_addI, getP_box, put_self, onL_lst, app_of (show xs.reverse.length < sizeLine by rw [List.length_reverse]; omega), onO_some, putP_box]
    exact ⟨_, rfl, (hc.put (k := 100000 + i) (xs := xs.reverse) hp (by omega) (by rw [List.length_reverse]; omega)).put hp (by omega) (by simp; omega)⟩
  · rintro ⟨sl2, g2⟩ ⟨x, rfl, hc⟩
    have hc : Chg g0 ps (100000 + (ps.map D.box).length) g g2 := hc
    rw [List.length_map] at hc
    exact fin x g2 ⟨hc.nx, hc.cs, fun p hp => by obtain ⟨xs, k1, k2⟩ := hc.ex p hp; exact ⟨xs, k1, by omega⟩⟩
theorem Chg.ext {g0 g g' : G} {ps : List Nat} {m : Nat} (h : Chg g0 ps m g g') (a : G) (e : Ext a g) (hp : ∀ p ∈ ps, a.nx ≤ p) : Ext a g' := ⟨by rw [h.nx]; exact e.nx, fun q hq => by
  rw [h.cs q (fun hm => by have := hp q hm; omega)]
  exact e.cs q hq⟩
theorem IsB.chg {g0 g g' : G} {ps : List Nat} {m p : Nat} {n : Int} {rs : List (List Int)} (h : IsB g p n rs) (c : Chg g0 ps m g g') (hp : p ∉ ps) : IsB g' p n rs := by
  obtain ⟨k, hk⟩ := h
  exact ⟨k, (c.cs p hp).trans hk⟩
end Lw
end

section
/-! K01x: a book tells right. -/
namespace Lw
open PySem L2 Mm
theorem told_ok {g : G} {r r0 : Nat} {c n : Int} {rs : List (List Int)} (s : St g r r0 c) (hc : c + 1001 ≤ 100000000000000) (hr : Rws n rs) (h0 : 0 ≤ n) (hn : n ≤ 1000) (hl : rs.length ≤ 1000) :
    Ok (m_l_told_right [.box r, .int n, dRows rs] ⟨[], g⟩) fun d S => St S.g r r0 (c + 1001) ∧ Fr r r0 g S.g ∧ d = .bl true := by
  have hsl := sizeLine_eq
  have hrl : ∀ row ∈ rs, row.length ≤ 100000 := fun row hm => by have := (hr.rw row hm).len; omega
  have hl' : rs.length ≤ 100000 := by omega
  unfold m_l_told_right
  rw [ok_runF]
  unfold b_l_told_right
  have e : slots 9 [.box r, .int n, dRows rs] = [.val (.box r), .val (.int n), .val (dRows rs), .emp, .emp, .emp, .emp, .emp, .emp] := rfl
  rw [e, ok_seqM, ok_setM, ok_callM, ok_consM]
  refine ok_rdv rfl ?_
  rw [ok_consM]
  refine ok_rdv rfl ?_
  rw [ok_nilM]
  refine (loose_ok 3 60 (rs.length + 1) _ g c (shp_rows hl' hrl) (by decide) s (by omega)).imp ?_
  rintro t ⟨_, g1⟩ ⟨s1, f1, hL⟩
  have s1 : St g1 r r0 (c + (rs.length + 1 : Nat)) := s1
  have f1 : Fr r r0 g g1 := f1
  obtain ⟨b, ts, rfl, hA⟩ := lse_rows (k := 0) hL
  rw [seqQ_nx, ok_seqM, ok_setM, ok_bd]
  refine box_rows (g := g1) (sl := [.val (.box r), .val (.int n), .val (dRows rs), .val (sq b ts), .emp, .emp, .emp, .emp, .emp]) (rs := rs) (ds := rs.map dInts) (ok := fun S' => vwD S' (dRows rs) = some (true, rs.map dInts)) (by simp) rfl hl' (by rw [List.length_map]) (fun P hP => src_items rfl vwD_dR P hP) (fun _ _ _ => vwD_dR) ?_ ?_
  · intro i d row g' P hd hr' _ _ hP
    obtain ⟨row', h1, rfl, _⟩ := rows_get hd
    rw [hr'] at h1; cases h1
    rw [ok_h1C, ok_hdN]
    refine ⟨(true, row.map D.int), rfl, ?_⟩
    simp only [ok_listF]
    exact hP
  intro ps g2 hb2 n2 c2
  rw [ok_boxC]
  obtain ⟨g3, e3⟩ : ∃ g3, g3 = g2.add (.lst (ps.map D.box)) := ⟨_, rfl⟩
  rw [← e3]
  have E23 : Ext g2 g3 := by rw [e3]; exact (Ext.refl _).add
  have E13 : Ext g1 g3 := (Ext.mk n2 c2).trans E23
  have hb3 := hb2.ext E23
  have q1n : g2.nx ∉ ps := fun hm => by have := (hb2.lo hm).2; omega
  have q1l : g2.nx < g3.nx := by rw [e3, add_nx]; omega
  have q1c : g3.cs g2.nx = some (.lst (ps.map D.box)) := by rw [e3, add_cs, if_pos rfl]
  have q1g : g1.nx ≤ g2.nx := n2
  generalize g2.nx = q1 at q1n q1l q1c q1g
  clear E23 hb2 n2 c2 e3
  rw [seqQ_nx, ok_seqM, ok_parM, ok_pVal, ok_makeM, ok_consM]
  refine ok_rdv rfl ?_
  rw [ok_consM]
  refine ok_rdv rfl ?_
  rw [ok_nilM]
  refine make_ok (b := b) (ts := ts) vw_sq (hA _) hr h0 hl' (by omega) ?_
  intro g4 B4
  have B4 : NewB g3 n rs g4 := B4
  rw [ok_pVal, ok_makeK, ok_consM]
  refine ok_rdv rfl ?_
  rw [ok_consM]
  refine ok_rdv rfl ?_
  rw [ok_nilM]
  have ep : perm [1, 0] [D.box q1, .int n] = [.int n, .box q1] := rfl
  rw [ep]
  have E34 := B4.ext
  have E4a : Ext g3 (g4.add (.ins "Book" [])) := E34.add
  refine make_ok (b := true) (ts := ps.map D.box) (vwD_box (E4a.keep q1l q1c)) (hb3.ext E4a).are hr h0 hl' (by omega) ?_
  intro g5 B5
  have B5 : NewB g4 n rs g5 := B5
  rw [ok_pNil]
  refine ⟨rfl, ?_⟩
  rw [seqQ_nx]
  show Ok (seqM _ _ ⟨[.val (.box r), .val (.int n), .val (dRows rs), .val (sq b ts), .emp, .val (.box q1), .val (.box g3.nx), .val (.box g4.nx), .emp], g5⟩) _
  have E45 := B5.ext
  have E35 := E34.trans E45
  have n4 : g4.nx = g3.nx + 2 := B4.nx
  have n5 : g5.nx = g4.nx + 2 := B5.nx
  have I6 : IsB g5 g3.nx n rs := B4.at_.ext E45 (by omega)
  have I7 : IsB g5 g4.nx n rs := B5.at_
  have q5 := E35.keep q1l q1c
  have hb5 := hb3.ext E35
  have plo : ∀ p ∈ ps, g1.nx ≤ p ∧ p < g3.nx := fun p hp => hb3.lo hp
  obtain ⟨p6, hp6⟩ : ∃ p6, p6 = g3.nx := ⟨_, rfl⟩
  obtain ⟨p7, hp7⟩ : ∃ p7, p7 = g4.nx := ⟨_, rfl⟩
  rw [← hp6] at I6
  rw [← hp7] at I7
  rw [← hp6, ← hp7, ok_seqM, ok_bd]
  refine src_items rfl (vwD_box q5) _ ?_
  refine rev_loop (by simp) rfl hb5 hrl hl' q5 q1n ?_
  intro x g6 C6
  rw [seqQ_nx]
  show Ok (seqM _ _ ⟨[.val (.box r), .val (.int n), .val (dRows rs), .val (sq b ts), x, .val (.box q1), .val (.box p6), .val (.box p7), .emp], g6⟩) _
  have E16 : Ext g1 g6 := C6.ext g1 (E13.trans E35) fun p hp => (plo p hp).1
  have I6 := I6.chg C6 fun hm => by have := plo _ hm; omega
  have I7 := I7.chg C6 fun hm => by have := plo _ hm; omega
  have q6 := (C6.cs q1 q1n).trans q5
  have hpl : (ps.map D.box).length < sizeLine := by rw [List.length_map, hb5.len]; omega
  rw [ok_seqM, ok_exprM, ok_mutM, ok_plN]
  simp only [List.getElem?_cons_succ, List.getElem?_cons_zero, getP_box, q6, onL_lst, ok_consM, ok_ret, ok_nilM, app_of hpl, onO_some, putP_box]
  obtain ⟨g7, e7⟩ : ∃ g7, g7 = g6.put q1 (.lst (ps.map D.box ++ [D.str "late"])) := ⟨_, rfl⟩
  rw [← e7]
  have E17 : Ext g1 g7 := by rw [e7]; exact E16.put q1g
  have I6 : IsB g7 p6 n rs := by rw [e7]; exact I6.put (by omega)
  have I7 : IsB g7 p7 n rs := by rw [e7]; exact I7.put (by omega)
  have l6 : p6 < g7.nx := by rw [e7, put_nx, C6.nx]; omega
  have l7 : p7 < g7.nx := by rw [e7, put_nx, C6.nx]; omega
  clear e7 q6 C6 E16 hb5 hb3 q5 E35 E45 E4a E34 B4 B5 q1c plo
  rw [seqQ_nx, ok_seqM, ok_ifM, ok_notM, ok_bd, ok_callM, ok_consM, ok_bd, ok_lstM, ok_consM]
  refine made_gates (fun P hP => ok_rdv rfl hP) I6 ?_
  rw [ok_consM]
  refine made_ways (fun P hP => ok_rdv rfl hP) I6 hl' ?_
  intro ps8 q8 g8 c8 b8 k8 l8 m8 E78
  have I6 := I6.ext E78 l6
  have I7 := I7.ext E78 l7
  have l6 := Nat.lt_of_lt_of_le l6 E78.nx
  have l7 := Nat.lt_of_lt_of_le l7 E78.nx
  rw [ok_consM]
  refine made_gates (fun P hP => ok_rdv rfl hP) I7 ?_
  rw [ok_consM]
  refine made_ways (fun P hP => ok_rdv rfl hP) I7 hl' ?_
  intro ps9 q9 g9 c9 b9 k9 l9 m9 E89
  have I6 := I6.ext E89 l6
  have I7 := I7.ext E89 l7
  have l6 := Nat.lt_of_lt_of_le l6 E89.nx
  have l7 := Nat.lt_of_lt_of_le l7 E89.nx
  rw [ok_nilM]
  refine ⟨by simp [hsl], ?_⟩
  rw [ok_frzC, ok_consM, ok_bd, ok_lstM, ok_consM]
  refine ok_rdv rfl ?_
  rw [ok_consM]
  refine ok_rdv rfl ?_
  rw [ok_consM]
  refine ok_rdv rfl ?_
  rw [ok_consM]
  refine ok_rdv rfl ?_
  rw [ok_nilM]
  refine ⟨by simp [hsl], ?_⟩
  rw [ok_frzC, ok_nilM]
  have S8 : SameR g9 3 (.box q8) (dRows rs) := same_box (E89.keep l8 c8) (b8.ext E89) hl' hrl
  have S9 : SameR g9 3 (.box q9) (dRows rs) := same_box c9 b9 hl' hrl
  have SR : SameR g9 4 (.lst [.int n, .box q8, .int n, .box q9]) (.lst [.int n, dRows rs, .int n, dRows rs]) := by
    refine .seq _ _ _ true _ _ rfl rfl rfl (by simp) fun i x y hx hy => ?_
    match i, hx, hy with
    | 0, hx, hy => cases hx; cases hy; exact .int _ _
    | 1, hx, hy => cases hx; cases hy; exact S8
    | 2, hx, hy => cases hx; cases hy; exact .int _ _
    | 3, hx, hy => cases hx; cases hy; exact S9
  refine (same_ok 4 60 _ _ SR (by decide)).imp ?_
  rintro x1 ⟨_, g9'⟩ ⟨e9, rfl⟩
  have e9 : g9' = g9 := e9
  subst e9
  rw [ok_asB, if_neg (by decide), ok_ret, seqQ_nx, ok_seqM, ok_setM]
  refine made_ways (fun P hP => ok_rdv rfl hP) I6 hl' ?_
  intro ps10 q10 g10 c10 b10 k10 l10 m10 E910
  have k10 : g9'.nx ≤ q10 := k10
  have E910 : Ext g9' g10 := E910
  have b10 : Bxs g9' g10 ps10 rs := b10
  have I6 := I6.ext E910 l6
  have I7 := I7.ext E910 l7
  rw [seqQ_nx]
  show Ok (seqM _ _ ⟨[.val (.box r), .val (.int n), .val (dRows rs), .val (sq b ts), x, .val (.box q1), .val (.box p6), .val (.box p7), .val (.box q10)], g10⟩) _
  rw [ok_seqM, ok_bd]
  refine src_items rfl (vwD_box c10) _ ?_
  refine late_loop (by simp) b10 hrl hl' c10 m10 ?_
  intro x2 g11 C11
  rw [seqQ_nx]
  show Ok (seqM _ _ ⟨[.val (.box r), .val (.int n), .val (dRows rs), .val (sq b ts), x2, .val (.box q1), .val (.box p6), .val (.box p7), .val (.box q10)], g11⟩) _
  have plo : ∀ p ∈ ps10, g9'.nx ≤ p := fun p hp => (b10.lo hp).1
  have E911 : Ext g9' g11 := C11.ext g9' E910 plo
  have I6 := I6.chg C11 fun hm => by have := plo _ hm; omega
  have I7 := I7.chg C11 fun hm => by have := plo _ hm; omega
  have q11 := (C11.cs q10 m10).trans c10
  have hpl : (ps10.map D.box).length < sizeLine := by rw [List.length_map, b10.len]; omega
  rw [ok_seqM, ok_exprM, ok_mutM, ok_plN]
  simp only [List.getElem?_cons_succ, List.getElem?_cons_zero, getP_box, q11, onL_lst, ok_consM, ok_ret, ok_nilM, app_of hpl, onO_some, putP_box]
  obtain ⟨g12, e12⟩ : ∃ g12, g12 = g11.put q10 (.lst (ps10.map D.box ++ [D.str "late"])) := ⟨_, rfl⟩
  rw [← e12]
  have E912 : Ext g9' g12 := by rw [e12]; exact E911.put k10
  have I6 : IsB g12 p6 n rs := by rw [e12]; exact I6.put (by omega)
  have I7 : IsB g12 p7 n rs := by rw [e12]; exact I7.put (by omega)
  rw [seqQ_nx, ok_retM, ok_andV, ok_callM, ok_consM]
  refine made_ways (fun P hP => ok_rdv rfl hP) I6 hl' ?_
  intro ps13 q13 g13 c13 b13 k13 l13 m13 E1213
  have l6 := Nat.lt_of_lt_of_le l6 E912.nx
  have l7 := Nat.lt_of_lt_of_le l7 E912.nx
  have I6 := I6.ext E1213 l6
  have I7 := I7.ext E1213 l7
  rw [ok_consM]
  refine ok_rdv rfl ?_
  rw [ok_nilM]
  refine (same_ok 3 60 _ _ (same_box c13 b13 hl' hrl) (by decide)).imp ?_
  rintro x3 ⟨_, g14⟩ ⟨e14, rfl⟩
  have e14 : g14 = g13 := e14
  subst e14
  rw [onB_bl, if_pos rfl, ok_andV]
  refine eqB (fun P hP => ok_rdv rfl hP) (fun P hP => ok_rdv rfl hP) I6 I7 ?_
  rw [onB_bl, if_pos (by simp), ok_notV, ok_neOwnM]
  refine eqB (fun P hP => ok_rdv rfl hP) (fun P hP => ok_rdv rfl hP) I6 I7 ?_
  simp only [onB_bl, endQ_rt]
  have E : Ext g1 g14 := ((E17.trans (E78.trans E89)).trans E912).trans E1213
  exact ⟨(s1.ext E).mono (by omega), f1.trans E.fr, by simp⟩
end Lw
end

section
/-! K01y: books are unlike. -/
namespace Lw
open PySem L2 Mm
theorem cut_m1 {xs : List D} : cutD xs none (some (-1)) = xs.take (xs.length - 1) := by
  unfold cutD
  have e : HT.sIx xs.length xs.length (some (-1)) = xs.length - 1 := by
    unfold HT.sIx
    simp
    omega
  rw [HT.sIx_none, e, Nat.sub_zero, List.drop_zero]
/-- == of a book and of one that is made there -/
theorem eqBm {sl : List Slot} {g : G} {p : Nat} {n m : Int} {rs ts : List (List Int)} {a b : M D} {Q : D → Sg → Prop} (ha : ∀ P : D → Sg → Prop, P (.box p) ⟨sl, g⟩ → Ok (a ⟨sl, g⟩) P) (hp : p < g.nx) (h : IsB g p n rs)
    (hb : ∀ P : D → Sg → Prop, (∀ q g', Ext g g' → IsB g' q m ts → P (.box q) ⟨sl, g'⟩) → Ok (b ⟨sl, g⟩) P)
    (hQ : ∀ g', Ext g g' → Q (.bl (decide (n = m) && decide (rs = ts))) ⟨sl, g'⟩) : Ok (eqOwnM fns clss "Book" m_Book_eq a b ⟨sl, g⟩) Q := by
  rw [ok_eqOwnM]
  refine ha _ (hb _ fun q g' E h' => ?_)
  have h0 := h.ext E hp
  have h0' := h'
  obtain ⟨k, hk⟩ := h.ext E hp
  obtain ⟨k', hk'⟩ := h'
  have k1 : ("Book" : Str) ∈ clss := by simp [clss]
  rw [ok_recM hk look_eq]
  refine ⟨by simp [tyD, hk', k1], ?_⟩
  refine (eq_book h0 h0').imp ?_
  rintro d ⟨_, g1⟩ ⟨e1, rfl⟩
  have e1 : g1 = g' := e1
  subst e1
  exact hQ g1 E
/-- a book made of a value -/
theorem mkR {sl : List Slot} {g : G} {n : Int} {ts : List (List Int)} {a b : M D} {k : Bool} {Q : D → Sg → Prop} (ha : ∀ P : D → Sg → Prop, P (.int n) ⟨sl, g⟩ → Ok (a ⟨sl, g⟩) P) (hb : ∀ P : D → Sg → Prop, P (sq k (ts.map dInts)) ⟨sl, g⟩ → Ok (b ⟨sl, g⟩) P)
    (hr : Rws n ts) (h0 : 0 ≤ n) (hn : n ≤ 10000) (hl : ts.length ≤ 100000) (q : ∀ g', NewB g n ts g' → Q (.box g.nx) ⟨sl, g'⟩) : Ok (makeM "Book" m_Book_init (consM a (consM b nilM)) ⟨sl, g⟩) Q := by
  rw [ok_makeM, ok_consM]
  refine ha _ ?_
  rw [ok_consM]
  refine hb _ ?_
  rw [ok_nilM]
  refine make_ok (b := k) (ts := ts.map dInts) vw_sq ⟨by rw [List.length_map], fun i t ht => ?_⟩ hr h0 hl hn q
  obtain ⟨row, h1, rfl, _⟩ := rows_get ht
  exact ⟨true, row, h1, rfl⟩
theorem Rws.sub {n : Int} {rs ts : List (List Int)} (h : Rws n rs) (s : ts.Sublist rs) : Rws n ts := ⟨h.nd.sublist s, fun row hr => h.rw row (s.subset hr)⟩
theorem Rw.rev {n : Int} {row : List Int} (h : Rw n row) : Rw n row.reverse := ⟨by simpa using h.ne, (List.reverse_perm row).nodup_iff.mpr h.nd, fun z hz => h.bd z (List.mem_reverse.mp hz)⟩
theorem Rws.turn {n : Int} {rs : List (List Int)} (h : Rws n rs) : Rws n (rs.drop 1 ++ rs.take 1) := by
  refine h.perm ?_
  refine List.perm_append_comm.trans ?_
  rw [List.take_append_drop]
theorem turn_ne {rs : List (List Int)} (h : rs.Nodup) (hl : 1 < rs.length) : rs ≠ rs.drop 1 ++ rs.take 1 := by
  match rs, h, hl with
  | a :: b :: rs, h, _ =>
    intro e
    simp at e
    have := e.1
    subst this
    simp at h
theorem Rws.swap {n : Int} {rs : List (List Int)} {i : Nat} {row : List Int} (h : Rws n rs) (e : rs[i]? = some row) (hn : row.reverse ∉ rs) : Rws n (rs.take i ++ [row.reverse] ++ rs.drop (i + 1)) := by
  have hi : i < rs.length := (List.getElem?_eq_some_iff.mp e).1
  have hd : (rs.take i ++ rs.drop (i + 1)).Sublist rs := by
    have h1 : (rs.take i ++ rs.drop (i + 1)).Sublist (rs.take i ++ rs.drop i) := List.Sublist.append (.refl _) (List.drop_sublist_drop_left _ (Nat.le_succ i))
    rwa [List.take_append_drop] at h1
  refine ⟨?_, fun w hw => ?_⟩
  · have h1 : (row.reverse :: (rs.take i ++ rs.drop (i + 1))).Nodup := List.nodup_cons.mpr ⟨fun hm => hn (hd.subset hm), h.nd.sublist hd⟩
    refine (List.Perm.nodup_iff ?_).mp h1
    rw [List.append_assoc, List.singleton_append]
    exact List.perm_middle.symm
  · simp only [List.mem_append, List.mem_singleton] at hw
    rcases hw with (hw | rfl) | hw
    · exact h.rw w (List.mem_of_mem_take hw)
    · exact (h.rw row (List.mem_of_getElem? e)).rev
    · exact h.rw w (List.mem_of_mem_drop hw)
/-- the others, each unlike the one at p -/
structure Oth (g0 : G) (p : Nat) (n : Int) (rs : List (List Int)) (qo k : Nat) (g : G) : Prop where
  e : Ext g0 g
  b : IsB g p n rs
  l : p < g.nx
  ql : qo < g.nx
  q0 : g0.nx ≤ qo
  ex : ∃ bs : List Nat, bs.length ≤ k ∧ g.cs qo = some (.lst (bs.map D.box)) ∧ ∀ b ∈ bs, b < g.nx ∧ ∃ m ts, IsB g b m ts ∧ ¬ (n = m ∧ rs = ts)
theorem Oth.app {g0 g g' : G} {p qo k : Nat} {n m : Int} {rs ts : List (List Int)} {bs : List Nat} (h : Oth g0 p n rs qo k g) (B : NewB g m ts g') (ne : ¬ (n = m ∧ rs = ts)) (hb1 : bs.length ≤ k) (hb2 : g.cs qo = some (.lst (bs.map D.box))) (hb3 : ∀ b ∈ bs, b < g.nx ∧ ∃ m ts, IsB g b m ts ∧ ¬ (n = m ∧ rs = ts)) :
    Oth g0 p n rs qo (k + 1) (g'.put qo (.lst (bs.map D.box ++ [.box g.nx]))) := by
  have E := B.ext
  have hx := B.nx
  have ins : ∀ b m' ts', IsB g b m' ts' → b ≠ qo := by
    rintro b m' ts' ⟨k', hk'⟩ rfl
    rw [hb2] at hk'
    cases hk'
  have hl := h.l
  have hq := h.ql
  have pn := ins p n rs h.b
  refine ⟨(h.e.trans E).put h.q0, (h.b.ext E h.l).put pn, by rw [put_nx]; omega, by rw [put_nx]; omega, h.q0, bs ++ [g.nx], by simp; omega, by rw [put_cs, if_pos rfl]; simp, ?_⟩
  intro b hb
  rcases List.mem_append.mp hb with hb | hb
  · obtain ⟨k1, m', ts', k2, k3⟩ := hb3 b hb
    exact ⟨by rw [put_nx]; omega, m', ts', (k2.ext E k1).put (ins b _ _ k2), k3⟩
  · rw [List.mem_singleton.mp hb]
    exact ⟨by rw [put_nx]; omega, m, ts, B.at_.put (by omega), ne⟩
theorem oth_app {sl : List Slot} {g0 g : G} {p qo k : Nat} {n m : Int} {rs ts : List (List Int)} {mk : M D} {Q : Fl → Sg → Prop} (h4 : sl[4]? = some (.val (.box qo))) (h : Oth g0 p n rs qo k g) (hk : k ≤ 10000) (hmk : ∀ P : D → Sg → Prop, (∀ g', NewB g m ts g' → P (.box g.nx) ⟨sl, g'⟩) → Ok (mk ⟨sl, g⟩) P)
    (ne : ¬ (n = m ∧ rs = ts)) (q : ∀ g', Oth g0 p n rs qo (k + 1) g' → Q .nx ⟨sl, g'⟩) : Ok (exprM (mutM appF (plN 4) (consM mk nilM)) ⟨sl, g⟩) Q := by
  have hsl := sizeLine_eq
  obtain ⟨bs, hb1, hb2, hb3⟩ := h.ex
  rw [ok_exprM, ok_mutM, ok_plN, h4]
  simp only [getP_box, hb2, onL_lst, ok_consM]
  refine hmk _ fun g' B => ?_
  have hb2' := B.ext.keep h.ql hb2
  simp only [ok_nilM, getP_box, hb2', onL_lst, app_of (show (bs.map D.box).length < sizeLine by rw [List.length_map]; omega), onO_some, putP_box]
  exact q _ (h.app B ne hb1 hb2 hb3)
end Lw
end

section
/-! K01z: books are unlike; the law. -/
namespace Lw
open PySem L2 Mm
theorem take_m1_ne {rs : List (List Int)} (h : rs ≠ []) : rs ≠ rs.take (rs.length - 1) := by
  intro e
  have h1 := congrArg List.length e
  rw [List.length_take] at h1
  have h2 : 0 < rs.length := List.length_pos_iff.mpr h
  omega
def UnI (g : G) (r p : Nat) (n : Int) (rs : List (List Int)) (qo : Nat) (i : Nat) (S : Sg) : Prop := ∃ x5 x6, S.sl = [.val (.box r), .val (.int n), .val (dRows rs), .val (.box p), .val (.box qo), x5, x6, .emp, .emp, .emp] ∧ Oth g p n rs qo (3 + i) S.g
theorem any_false {ds : List D} : (ds.map fun _ => D.bl false) = (ds.map fun _ => false).map D.bl := by rw [List.map_map]; rfl
theorem any_no {α : Type} {ds : List α} : (ds.map fun _ => false).any id = false := by
  induction ds with
  | nil => rfl
  | cons _ _ ih => simpa using ih
theorem unlike_right {g : G} {r : Nat} {n : Int} {rs : List (List Int)} (hr : Rws n rs) (hne : rs ≠ []) (h0 : 0 ≤ n) (hn : n ≤ 1000) (hl : rs.length ≤ 1000) :
    Ok (m_l_unlike_right [.box r, .int n, dRows rs] ⟨[], g⟩) fun d S => Ext g S.g ∧ d = .bl true := by
  have hsl := sizeLine_eq
  unfold m_l_unlike_right
  rw [ok_runF]
  unfold b_l_unlike_right
  have e : slots 10 [.box r, .int n, dRows rs] = [.val (.box r), .val (.int n), .val (dRows rs), .emp, .emp, .emp, .emp, .emp, .emp, .emp] := rfl
  rw [e, ok_seqM, ok_asgM, ok_tupM, ok_consM]
  refine mkR (n := n) (ts := rs) (k := true) (fun P hP => ok_rdv rfl hP) (fun P hP => ok_rdv rfl hP) hr h0 (by omega) (by omega) ?_
  intro g1 B1
  rw [ok_consM, ok_bd, ok_lstM, ok_consM]
  refine mkR (n := n + 1) (ts := rs) (k := true) (fun P hP => by rw [ok_bop]; refine ok_rdv rfl ?_; rw [ok_ret, ok_addI]; exact hP) (fun P hP => ok_rdv rfl hP) ⟨hr.nd, fun row hm => (hr.rw row hm).mono (by omega)⟩ (by omega) (by omega) (by omega) ?_
  intro g2 B2
  rw [ok_consM]
  refine mkR (n := n) (ts := rs.take (rs.length - 1)) (k := true) (fun P hP => ok_rdv rfl hP) (fun P hP => ?_) (hr.sub (List.take_sublist _ _)) h0 (by omega) (by rw [List.length_take]; omega) ?_
  · rw [ok_slM, ok_hdN]
    simp only [List.getElem?_cons_succ, List.getElem?_cons_zero, ok_ret, ok_bd, ok_negM, onI_int, ok_oint, vw_dR, onO_some, if_true]
    rw [cut_m1, List.length_map, ← List.map_take]
    exact hP
  intro g3 B3
  rw [ok_nilM]
  refine ⟨by simp [hsl], ?_⟩
  rw [ok_boxC, ok_nilM]
  refine ⟨by simp [hsl], ?_⟩
  obtain ⟨p, hp⟩ : ∃ p, p = g.nx := ⟨_, rfl⟩
  obtain ⟨qo, hqo⟩ : ∃ p, p = g3.nx := ⟨_, rfl⟩
  have n1 := B1.nx
  have n2 := B2.nx
  have n3 := B3.nx
  have E := (B1.ext.trans B2.ext).trans B3.ext
  have O : Oth g p n rs qo 2 (g3.add (.lst [.box g1.nx, .box g2.nx])) := by
    have E1 := (B2.ext.trans B3.ext)
    have Ea := (Ext.refl g3).add (x := .lst [.box g1.nx, .box g2.nx])
    refine ⟨E.add, ?_, by rw [add_nx]; omega, by rw [add_nx]; omega, by omega, [g1.nx, g2.nx], by simp, by rw [add_cs, if_pos hqo]; rfl, ?_⟩
    · rw [hp]
      exact B1.at_.ext (E1.trans Ea) (by omega)
    · intro b hb
      rcases List.mem_cons.mp hb with rfl | hb
      · exact ⟨by rw [add_nx]; omega, n + 1, rs, B2.at_.ext (B3.ext.trans Ea) (by omega), by omega⟩
      · rw [List.mem_singleton.mp hb]
        exact ⟨by rw [add_nx]; omega, n, _, B3.at_.ext Ea (by omega), fun h => take_m1_ne hne h.2⟩
  rw [← hp, ← hqo]
  generalize g3.add (.lst [.box g1.nx, .box g2.nx]) = g4 at O
  refine onO_of (a := ⟨[.val (.box r), .val (.int n), .val (dRows rs), .val (.box p), .val (.box qo), .emp, .emp, .emp, .emp, .emp], g4⟩) rfl ?_
  clear E hp hqo B1 B2 B3 n1 n2 n3
  rw [seqQ_nx, ok_seqM]
  refine Ok.imp (Q := fun f S => f = .nx ∧ S.sl = [.val (.box r), .val (.int n), .val (dRows rs), .val (.box p), .val (.box qo), .emp, .emp, .emp, .emp, .emp] ∧ Oth g p n rs qo 3 S.g) ?_ ?_
  · rw [ok_ifM, ok_bopT, ok_h1, ok_hdN]
    refine onO_of (a := (true, rs.map dInts)) rfl ?_
    rw [ok_lenF, ok_ret, ok_gtI, ok_asB]
    split
    · rename_i hlt
      have hlt : 1 < rs.length := by simp at hlt; omega
      refine oth_app (m := n) (ts := rs.drop 1 ++ rs.take 1) rfl O (by omega) (fun P hP => mkR (k := true) (fun P hP => ok_rdv rfl hP) (fun P hP => ?_) hr.turn h0 (by omega) (by simp; omega) hP) (fun h => turn_ne hr.nd hlt h.2) (fun g' h => ⟨rfl, rfl, h⟩)
      simp only [ok_bd, ok_catC, ok_hdE, ok_slM, ok_hdN, List.getElem?_cons_succ, List.getElem?_cons_zero, ok_ret, ok_oint, vw_dR, onO_some, if_true, cutI_to (show (0 : Int) ≤ 1 by decide), cutI_from (show (0 : Int) ≤ 1 by decide), vw_lst, ok_frzC, true_and, fold_app]
      refine ⟨by simp [hsl]; omega, ?_⟩
      exact hP
    · exact ok_ret.mpr ⟨rfl, rfl, O.e, O.b, O.l, O.ql, O.q0, by obtain ⟨bs, h1, h2⟩ := O.ex; exact ⟨bs, by omega, h2⟩⟩
  rintro _ ⟨_, g5⟩ ⟨rfl, rfl, O⟩
  have O : Oth g p n rs qo 3 g5 := O
  rw [seqQ_nx, ok_seqM, ok_bd, ok_bd]
  refine ok_rdv rfl ?_
  rw [ok_enumS, vwD_dR, onO_some]
  refine Ok.imp (Q := fun f S => f = .nx ∧ UnI g r p n rs qo rs.length S) ?_ ?_
  · refine ok_forM (UnI g r p n rs qo) (fun _ _ _ _ => vwD_dR) ⟨_, _, rfl, O⟩ ?_ ?_
    · rintro i d ⟨_, g6⟩ hd ⟨x5, x6, rfl, O⟩
      have O : Oth g p n rs qo (3 + i) g6 := O
      obtain ⟨row, h1, rfl, hm, hi⟩ := enum_get hd
      refine ⟨⟨[.val (.box r), .val (.int n), .val (dRows rs), .val (.box p), .val (.box qo), .val (.int i), .val (dInts row), .emp, .emp, .emp], g6⟩, rfl, ?_⟩
      rw [ok_ifM, ok_bd, ok_inM, ok_bd, ok_revC, ok_hdN]
      refine onO_of (a := (true, row.map D.int)) rfl ⟨rfl, ?_⟩
      rw [← List.map_reverse, ok_frzI, ok_hdN]
      refine onO_of (a := (true, rs.map dInts)) rfl ?_
      rw [ok_inR, if_pos rfl, ok_asB]
      split
      · rename_i hin
        have hin : row.reverse ∉ rs := by simpa using hin
        refine oth_app (m := n) (ts := rs.take i ++ [row.reverse] ++ rs.drop (i + 1)) rfl O (by omega) (fun P hP => mkR (k := true) (fun P hP => ok_rdv rfl hP) (fun P hP => ?_) (hr.swap h1 hin) h0 (by omega) (by simp; omega) hP) (fun h => hin (by rw [h.2]; simp)) (fun g' h => ⟨_, _, rfl, h⟩)
        have hc : (((i : Int) + 1).toNat) = i + 1 := by omega
        simp only [ok_bd, ok_catC, ok_hdE, ok_slM, ok_hdN, ok_rd, ok_bop, ok_addI, List.getElem?_cons_succ, List.getElem?_cons_zero, ok_ret, ok_oint, vw_dR, vw_dI, onO_some, if_true, cutI_to (show (0 : Int) ≤ (i : Int) by omega), cutI_from (show (0 : Int) ≤ (i : Int) + 1 by omega), vw_lst, ok_frzC, true_and, fold_app, ok_lstM, ok_consM, ok_nilM, ok_revC, ← List.map_reverse, hc, Int.toNat_natCast]
        refine ⟨by simp [hsl], ?_, ?_, ?_⟩
        · simp [hsl]; omega
        · simp [hsl]; omega
        · have e1 : List.map dInts (List.take i rs) ++ [dInts row.reverse] ++ List.map dInts (List.drop (i + 1) rs) = (rs.take i ++ [row.reverse] ++ rs.drop (i + 1)).map dInts := by simp
          have e2 : D.lst (List.map D.int row.reverse) = dInts row.reverse := rfl
          rw [e2, e1]
          exact hP
      · refine ok_ret.mpr ⟨_, _, rfl, O.e, O.b, O.l, O.ql, O.q0, ?_⟩
        obtain ⟨bs, h1, h2⟩ := O.ex
        exact ⟨bs, by omega, h2⟩
    · intro S h
      have h : UnI g r p n rs qo (enFrom 0 (rs.map dInts)).length S := h
      have e : (enFrom 0 (rs.map dInts)).length = rs.length := by
        rw [enFrom_len, List.length_map]
      rw [e] at h
      exact ⟨rfl, h⟩
  rintro _ ⟨_, g7⟩ ⟨rfl, x5, x6, rfl, O⟩
  have O : Oth g p n rs qo (3 + rs.length) g7 := O
  obtain ⟨bs, hb1, hb2, hb3⟩ := O.ex
  rw [seqQ_nx, ok_seqM, ok_ifM, ok_bd, ok_h1, ok_hdE, ok_bd]
  refine ok_lcMap (f := fun _ => .bl false) (by simp) rfl (src_items rfl (vwD_box hb2)) (vwD_box hb2) (by rw [List.length_map]; omega) ?_ ?_
  · intro d hd P hP
    obtain ⟨b, hb, rfl⟩ := List.mem_map.mp hd
    obtain ⟨k1, m, ts, k2, k3⟩ := hb3 b hb
    have hf : (decide (n = m) && decide (rs = ts)) = false := by simp; exact fun h1 h2 => k3 ⟨h1, h2⟩
    rw [ok_orV]
    refine eqB (fun P hP => ok_rdv rfl hP) (fun P hP => ok_rdv rfl hP) O.b k2 ?_
    rw [hf, onB_bl, if_neg (by decide), ok_notV, ok_neOwnM]
    refine eqB (fun P hP => ok_rdv rfl hP) (fun P hP => ok_rdv rfl hP) O.b k2 ?_
    rw [hf]
    simp only [onB_bl]
    exact hP
  rw [any_false, ok_frzC]
  refine onO_of (a := (true, _)) rfl ?_
  rw [ok_anyF, ok_asB, any_no, if_neg (by decide), ok_ret, seqQ_nx, ok_seqM, ok_setM]
  simp only [ok_lstM, ok_consM, ok_ret, ok_tupM, ok_nilM, ok_bd, ok_rd, List.getElem?_cons_succ, List.getElem?_cons_zero, ok_boxC, ok_frzC]
  refine ⟨by simp [hsl], by simp [hsl], by simp [hsl], by simp [hsl], ?_⟩
  obtain ⟨g8, e8⟩ : ∃ g8, g8 = g7.add (.dK []) := ⟨_, rfl⟩
  have E8 : Ext g7 g8 := by rw [e8]; exact (Ext.refl g7).add
  have h9 : g8.cs g7.nx = some (.dK []) := by rw [e8, add_cs, if_pos rfl]
  rw [← e8, seqQ_nx]
  have Ob := O.b.ext E8 O.l
  have Ol : p < g8.nx := Nat.lt_of_lt_of_le O.l E8.nx
  have kf : ("_law_pick" : Str) ∈ fns := by simp [fns]
  generalize g7.nx = qd at h9
  show Ok (retM _ ⟨[.val (.box r), .val (.int n), .val (dRows rs), .val (.box p), .val (.box qo), x5, x6, .val (.lst [.non, .int 5, .bl true, .str "book", .tup [], dRows rs, .tup [.int n, dRows rs], .box qd, .lst [.box p], .glo "_law_pick"]), .emp, .emp], g8⟩) _
  rw [ok_retM, ok_andV, ok_notV, ok_h1, ok_hdE, ok_bd]
  refine ok_lcMap (f := fun _ => .bl false) (by simp) rfl (src_items rfl vwD_lst) vwD_lst (by simp [hsl]) ?_ ?_
  · intro d hd P hP
    have ht : ∃ t, ∀ sl, tyD fns clss ⟨sl, g8⟩ d = some (.bt t) := by
      simp only [List.mem_cons, List.not_mem_nil, or_false] at hd
      rcases hd with rfl | rfl | rfl | rfl | rfl | rfl | rfl | rfl | rfl | rfl
      · exact ⟨"NoneType", fun _ => rfl⟩
      · exact ⟨"int", fun _ => rfl⟩
      · exact ⟨"bool", fun _ => rfl⟩
      · exact ⟨"str", fun _ => rfl⟩
      · exact ⟨"tuple", fun _ => rfl⟩
      · exact ⟨"list", fun _ => rfl⟩
      · exact ⟨"tuple", fun _ => rfl⟩
      · exact ⟨"dict", fun _ => by simp [tyD, h9]⟩
      · exact ⟨"list", fun _ => rfl⟩
      · exact ⟨"function", fun _ => by simp [tyD, kf]⟩
    obtain ⟨t, ht⟩ := ht
    rw [ok_orV]
    refine eqN (fun P hP => ok_rdv rfl hP) (fun P hP => ok_rdv rfl hP) Ob ht ?_
    rw [onB_bl, if_neg (by decide), ok_notV, ok_neOwnM]
    refine eqN (fun P hP => ok_rdv rfl hP) (fun P hP => ok_rdv rfl hP) Ob ht ?_
    simp only [onB_bl]
    exact hP
  rw [any_false, ok_frzC]
  refine onO_of (a := (true, _)) rfl ?_
  rw [ok_anyF, any_no, onB_bl, onB_bl, if_pos (by decide)]
  refine eqBm (m := n) (ts := rs) (fun P hP => ok_rdv rfl hP) Ol Ob (fun P hP => mkR (n := n) (ts := rs) (k := false) (fun P hP => ok_rdv rfl hP) (fun P hP => ?_) hr h0 (by omega) (by omega) (fun g' B => hP _ g' B.ext B.at_)) ?_
  · rw [ok_h1, ok_hdN]
    refine onO_of (a := (true, rs.map dInts)) rfl ?_
    rw [if_pos rfl, ok_tupleF]
    exact hP
  · intro g9 E9
    rw [onB_bl, endQ_rt]
    exact ⟨(O.e.trans E8).trans E9, by simp⟩
end Lw
end

section
/-! K01zz: the law. -/
namespace Lw
open PySem L2 Mm
def LwI (ns : List Int) (r r0 : Nat) (i : Nat) (S : Sg) : Prop := ∃ x2 x3 x4, S.sl = [.val (.scr ns), .val (.box r), x2, x3, x4, .emp] ∧ St S.g r r0 (i * 1000000)
theorem told_call {sl : List Slot} {g : G} {r r0 : Nat} {c n : Int} {rs : List (List Int)} {a b d : M D} {Q : Bool → Sg → Prop} (ha : ∀ P : D → Sg → Prop, P (.box r) ⟨sl, g⟩ → Ok (a ⟨sl, g⟩) P) (hb : ∀ P : D → Sg → Prop, P (.int n) ⟨sl, g⟩ → Ok (b ⟨sl, g⟩) P) (hd : ∀ P : D → Sg → Prop, P (dRows rs) ⟨sl, g⟩ → Ok (d ⟨sl, g⟩) P)
    (s : St g r r0 c) (hc : c + 1001 ≤ 100000000000000) (hr : Rws n rs) (h0 : 0 ≤ n) (hn : n ≤ 1000) (hl : rs.length ≤ 1000) (q : ∀ g', St g' r r0 (c + 1001) → Q false ⟨sl, g'⟩) :
    Ok (notM (bd (callM m_l_told_right (consM a (consM b (consM d nilM)))) asB) ⟨sl, g⟩) Q := by
  rw [ok_notM, ok_bd, ok_callM, ok_consM]
  refine ha _ ?_
  rw [ok_consM]
  refine hb _ ?_
  rw [ok_consM]
  refine hd _ ?_
  rw [ok_nilM]
  refine (told_ok s hc hr h0 hn hl).imp ?_
  rintro x ⟨_, g1⟩ ⟨s1, _, rfl⟩
  rw [ok_asB]
  exact q g1 s1
theorem unlike_call {sl : List Slot} {g : G} {r r0 : Nat} {c n : Int} {rs : List (List Int)} {a b d : M D} {Q : Bool → Sg → Prop} (ha : ∀ P : D → Sg → Prop, P (.box r) ⟨sl, g⟩ → Ok (a ⟨sl, g⟩) P) (hb : ∀ P : D → Sg → Prop, P (.int n) ⟨sl, g⟩ → Ok (b ⟨sl, g⟩) P) (hd : ∀ P : D → Sg → Prop, P (dRows rs) ⟨sl, g⟩ → Ok (d ⟨sl, g⟩) P)
    (s : St g r r0 c) (hr : Rws n rs) (hne : rs ≠ []) (h0 : 0 ≤ n) (hn : n ≤ 1000) (hl : rs.length ≤ 1000) (q : ∀ g', St g' r r0 c → Q false ⟨sl, g'⟩) :
    Ok (notM (bd (callM m_l_unlike_right (consM a (consM b (consM d nilM)))) asB) ⟨sl, g⟩) Q := by
  rw [ok_notM, ok_bd, ok_callM, ok_consM]
  refine ha _ ?_
  rw [ok_consM]
  refine hb _ ?_
  rw [ok_consM]
  refine hd _ ?_
  rw [ok_nilM]
  refine (unlike_right hr hne h0 hn hl).imp ?_
  rintro x ⟨_, g1⟩ ⟨e, rfl⟩
  rw [ok_asB]
  exact q g1 (s.ext e)
theorem draw_1 {sl : List Slot} {g : G} {r r0 : Nat} {c k : Int} {i : Nat} {Q : D → Sg → Prop} (hi : sl[i]? = some (.val (.box r))) (s : St g r r0 c) (hc : c ≤ 100000000000000) (h1 : 1 ≤ k) (h2 : k ≤ 1000000)
    (q : ∀ z g', 1 ≤ z → z ≤ k → St g' r r0 (c + 1) → Q (.int z) ⟨sl, g'⟩) : Ok (bop addI (ret (.int 1)) (callM m_l_draw (consM (rd i) (consM (ret (.int k)) nilM))) ⟨sl, g⟩) Q := by
  rw [ok_bop, ok_ret, ok_callM, ok_consM]
  refine ok_rdv hi ?_
  rw [ok_consM, ok_ret, ok_nilM]
  refine draw_k s hc h1 (by omega) ?_
  intro z _ g' z0 z1 s1 _
  rw [ok_addI]
  exact q _ g' (by omega) (by omega) s1
theorem law_ok : LawOk m_law := by
  intro ns _ _
  have hsl := sizeLine_eq
  have h : Ok (m_law [.scr ns] ⟨[], g0⟩) fun d _ => d = .bl true := by
    unfold m_law
    rw [ok_runF]
    unfold b_law
    have e : slots 6 [.scr ns] = [.val (.scr ns), .emp, .emp, .emp, .emp, .emp] := rfl
    rw [e, ok_seqM, ok_setM, ok_callM, ok_consM]
    refine ok_rdv rfl ?_
    rw [ok_nilM]
    refine stream_ok.imp ?_
    rintro _ ⟨_, g1⟩ ⟨_, s1, rfl, _⟩
    have s1 : St g1 (g0.nx + 1) g0.nx 0 := s1
    generalize g0.nx + 1 = r at s1
    generalize g0.nx = r0 at s1
    rw [seqQ_nx, ok_seqM, ok_bd, ok_bd, ok_ret, ok_rng1]
    refine ⟨by omega, ?_⟩
    refine Ok.imp (Q := fun f S => f = .nx ∧ LwI ns r r0 4 S) ?_ ?_
    · refine ok_forM (LwI ns r r0) (fun _ _ _ _ => trivial) ⟨_, _, _, rfl, by simpa using s1⟩ ?_ ?_
      · rintro i d ⟨_, g2⟩ hd ⟨x2, x3, x4, rfl, s2⟩
        obtain ⟨hi, rfl⟩ := rngD_get hd
        have hi : i < 4 := hi
        have s2 : St g2 r r0 ((i : Int) * 1000000) := s2
        refine ⟨_, asg_nm, ?_⟩
        rw [ok_seqM, ok_asgM, ok_callM, ok_consM]
        refine ok_rdv rfl ?_
        rw [ok_consM, ok_ret, ok_consM, ok_ret, ok_nilM]
        refine (book_ok s2 (by omega) (by decide) (by decide) (by decide) (by decide)).imp ?_
        rintro _ ⟨_, g3⟩ ⟨s3, f3, n, rs, rfl, hr, k1, k2, k3, k4⟩
        have s3 : St g3 r r0 ((i : Int) * 1000000 + 100000) := s3
        have hne : rs ≠ [] := fun e => by subst e; simp at k3
        refine onO_of (a := ⟨[.val (.scr ns), .val (.box r), .val (.int (0 + i)), .val (.int n), .val (dRows rs), .emp], g3⟩) rfl ?_
        rw [seqQ_nx, ok_seqM, ok_ifM, ok_orM]
        refine told_call (fun P hP => ok_rdv rfl hP) (fun P hP => ok_rdv rfl hP) (fun P hP => ok_rdv rfl hP) s3 (by omega) hr (by omega) (by omega) (by omega) ?_
        intro g4 s4
        rw [if_neg (by decide)]
        refine unlike_call (fun P hP => ok_rdv rfl hP) (fun P hP => ok_rdv rfl hP) (fun P hP => ok_rdv rfl hP) s4 hr hne (by omega) (by omega) (by omega) ?_
        intro g5 s5
        rw [if_neg (by decide), ok_ret, seqQ_nx, ok_seqM, ok_setM]
        refine draw_1 rfl s5 (by omega) (by decide) (by decide) ?_
        intro n2 g6 z1 z2 s6
        rw [seqQ_nx, ok_seqM, ok_setM, ok_callM, ok_consM]
        refine ok_rdv rfl ?_
        rw [ok_consM]
        refine ok_rdv rfl ?_
        rw [ok_consM]
        refine draw_1 rfl s6 (by omega) (by decide) (by decide) ?_
        intro m g7 y1 y2 s7
        rw [ok_nilM]
        refine (rows_ok s7 z1 (by omega) y1 (by omega) (by omega)).imp ?_
        rintro _ ⟨_, g8⟩ ⟨s8, f8, rs2, rfl, hr2, hne2, hl2⟩
        have s8 : St g8 r r0 (((((i : Int) * 1000000 + 100000) + 1001 + 1) + 1) + m * 1001) := s8
        rw [seqQ_nx]
        show Ok (ifM _ _ _ ⟨[.val (.scr ns), .val (.box r), .val (.int (0 + i)), .val (.int n2), .val (dRows rs2), .emp], g8⟩) _
        rw [ok_ifM, ok_orM]
        refine told_call (fun P hP => ok_rdv rfl hP) (fun P hP => ok_rdv rfl hP) (fun P hP => ok_rdv rfl hP) s8 (by omega) hr2 (by omega) (by omega) (by omega) ?_
        intro g9 s9
        rw [if_neg (by decide)]
        have hr3 : Rws (if 8 < n2 then 8 else n2) [[0]] := ⟨by simp, fun row hm => by
          rw [List.mem_singleton.mp hm]
          exact ⟨by simp, by simp, fun z hz => by rw [List.mem_singleton.mp hz]; split <;> omega⟩⟩
        refine unlike_call (n := if 8 < n2 then 8 else n2) (rs := [[0]]) (fun P hP => ok_rdv rfl hP) (fun P hP => ?_) (fun P hP => ?_) s9 hr3 (by simp) (by split <;> omega) (by split <;> omega) (by simp) ?_
        · rw [ok_v2]
          refine ok_rdv rfl ?_
          rw [ok_ret, ok_min2F]
          exact hP
        · simp only [ok_bd, ok_lstM, ok_consM, ok_ret, ok_nilM, ok_frzC]
          exact ⟨by simp [hsl], by simp [hsl], hP⟩
        · intro g10 s10
          rw [if_neg (by decide), ok_ret]
          exact ⟨_, _, _, rfl, s10.mono (by omega)⟩
      · intro S h
        have h : LwI ns r r0 4 S := h
        exact ⟨rfl, h⟩
    rintro _ ⟨_, g2⟩ ⟨rfl, x2, x3, x4, rfl, s2⟩
    rw [seqQ_nx, ok_seqM, ok_setM]
    have r0' : ∀ n : Int, Rws n [] := fun n => .nil
    refine mkR (n := 0) (ts := []) (k := true) (fun P hP => by rw [ok_ret]; exact hP) (fun P hP => by simp only [ok_bd, ok_lstM, ok_nilM, ok_frzC]; exact ⟨by simp, hP⟩) (r0' _) (by decide) (by decide) (by simp) ?_
    intro g3 B3
    have n3 := B3.nx
    rw [seqQ_nx]
    show Ok (retM _ ⟨[.val (.scr ns), .val (.box r), x2, x3, x4, .val (.box g2.nx)], g3⟩) _
    have l3 : g2.nx < g3.nx := by omega
    have I3 := B3.at_
    generalize g2.nx = p at I3 l3
    rw [ok_retM, ok_andV, ok_callM, ok_consM, ok_bd, ok_lstM, ok_consM]
    refine made_gates (fun P hP => ok_rdv rfl hP) I3 ?_
    rw [ok_consM]
    refine made_ways (fun P hP => ok_rdv rfl hP) I3 (by simp) ?_
    intro ps4 q4 g4 c4 b4 _ l4 _ E4
    have I4 := I3.ext E4 l3
    have l4' := Nat.lt_of_lt_of_le l3 E4.nx
    rw [ok_consM, ok_methM]
    refine mkR (n := 3) (ts := []) (k := false) (fun P hP => by rw [ok_ret]; exact hP) (fun P hP => by simp only [ok_tupM, ok_nilM]; exact ⟨by simp, hP⟩) (r0' _) (by decide) (by decide) (by simp) ?_
    intro g5 B5
    have n5 := B5.nx
    have I5 := B5.at_
    obtain ⟨k5, hk5⟩ := B5.at_
    have lk : lookA "ways" (bkF 3 [] k5) = none := by
      have n1 : ("ways" : Str) ≠ "own_gates" := by decide
      have n2 : ("ways" : Str) ≠ "own_ways" := by decide
      have n3 : ("ways" : Str) ≠ "own_known" := by decide
      simp only [bkF, lookA, if_neg n1, if_neg n2, if_neg n3]
    rw [ok_recM hk5 lk, ok_nilM]
    refine (ways_ok I5 (by simp)).imp ?_
    rintro _ ⟨_, g6⟩ ⟨ps6, q6, rfl, c6, b6, _, _, _, e6, e6'⟩
    have E6 : Ext g5 g6 := ⟨e6, e6'⟩
    have I6 := (I4.ext B5.ext l4').ext E6 (by omega)
    have l6 := Nat.lt_of_lt_of_le (Nat.lt_of_lt_of_le l4' B5.ext.nx) E6.nx
    have E46 := B5.ext.trans E6
    rw [ok_nilM]
    refine ⟨by simp [hsl], ?_⟩
    simp only [ok_frzC, ok_consM, ok_bd, ok_lstM, ok_nilM, ok_ret]
    refine ⟨by simp, by simp, by simp [hsl], ?_⟩
    have S4 : SameR g6 3 (.box q4) (dRows []) := same_box (E46.keep l4 c4) (b4.ext E46) (by simp) (by simp)
    have S6 : SameR g6 3 (.box q6) (dRows []) := same_box c6 b6 (by simp) (by simp)
    have SR : SameR g6 4 (.lst [.int 0, .box q4, .box q6]) (.lst [.int 0, dRows [], dRows []]) := by
      refine .seq _ _ _ true _ _ rfl rfl rfl (by simp) fun i x y hx hy => ?_
      match i, hx, hy with
      | 0, hx, hy => cases hx; cases hy; exact .int _ _
      | 1, hx, hy => cases hx; cases hy; exact S4
      | 2, hx, hy => cases hx; cases hy; exact S6
    refine (same_ok 4 60 _ _ SR (by decide)).imp ?_
    rintro _ ⟨_, g7⟩ ⟨e7, rfl⟩
    have e7 : g7 = g6 := e7
    subst e7
    rw [onB_bl, if_pos rfl, ok_notV]
    refine eqBm (m := 1) (ts := []) (fun P hP => ok_rdv rfl hP) l6 I6 (fun P hP => mkR (n := 1) (ts := []) (k := true) (fun P hP => by rw [ok_ret]; exact hP) (fun P hP => by simp only [ok_bd, ok_lstM, ok_nilM, ok_frzC]; exact ⟨by simp, hP⟩) (r0' _) (by decide) (by decide) (by simp) (fun g' B => hP _ g' B.ext B.at_)) ?_
    intro g8 _
    simp only [onB_bl, endQ_rt]
    rfl
  obtain ⟨d, S, e, h⟩ := h
  subst h
  exact ⟨S, e⟩
end Lw
end

open PySem PySem.W PyProof.Rows L2
set_option maxRecDepth 100000 in
set_option maxHeartbeats 0 in
theorem PySem.Challenge.cw_waysthatcross_k01_whole_books_made_holds : PySem.Challenge.rw_waysthatcross_k01_whole_books_made.Holds := by
  w_on; o_law; k_head; (case hw => w_witness2)
  k_fill
  refine Mm.end_of (l := PySem.Challenge.rw_waysthatcross_k01_whole_books_made) (k := 65) (x := "law") (y := "_law_script") (st := Lw.s_law) (f := Lw.m_law) rfl rfl rfl ⟨rfl, by decide, by decide⟩ (fun w h Y => PySem.W.kIn_of Y) (fun _ _ _ _ _ _ _ => rfl) ?D Lw.law_ok
  case D =>
    intro w mg h KX G
    refine' Lw.of_txt ?T
    refine' Lw.Txt.mk ?d_is_integer ?d_is_number ?d_is_list ?d_are_unlike ?d_first_bad_way ?d_l_stream ?d_l_draw ?d_l_pick ?d_l_mixed ?d_l_same ?d_l_loose ?d_l_lack ?d_l_leaped ?d_l_trails ?d_l_webbed ?d_l_each_once ?d_l_shifted ?d_l_joined ?d_l_drawn_book ?d_l_fitting ?d_l_book ?d_l_rows ?d_l_told_right ?d_l_unlike_right ?d_law ?n_abs ?n_all ?n_any ?n_bool ?n_dict ?n_enumerate ?n_int ?n_isinstance ?n_len ?n_list ?n_min ?n_range ?n_sorted ?n_tuple ?n_zip ?a_Book ?kit ?i_Book_init ?i_Book_gates ?i_Book_ways ?i_Book_eq ?g_Book ?g_l_pick
    case d_is_integer =>
      refine' Mm.defIn_mk KX G ?q0_a ?q0_l ?q0_c ?q0_k; (case q0_a => k_is); (case q0_l => k_is); (case q0_c => k_is); (case q0_k => k_is)
    case d_is_number =>
      refine' Mm.defIn_mk KX G ?q1_a ?q1_l ?q1_c ?q1_k; (case q1_a => k_is); (case q1_l => k_is); (case q1_c => k_is); (case q1_k => k_is)
    case d_is_list =>
      refine' Mm.defIn_mk KX G ?q2_a ?q2_l ?q2_c ?q2_k; (case q2_a => k_is); (case q2_l => k_is); (case q2_c => k_is); (case q2_k => k_is)
    case d_are_unlike =>
      refine' Mm.defIn_mk KX G ?q3_a ?q3_l ?q3_c ?q3_k; (case q3_a => k_is); (case q3_l => k_is); (case q3_c => k_is); (case q3_k => k_is)
    case d_first_bad_way =>
      refine' Mm.defIn_mk KX G ?q4_a ?q4_l ?q4_c ?q4_k; (case q4_a => k_is); (case q4_l => k_is); (case q4_c => k_is); (case q4_k => k_is)
    case d_l_stream =>
      refine' Mm.defIn_mk KX G ?q5_a ?q5_l ?q5_c ?q5_k; (case q5_a => k_is); (case q5_l => k_is); (case q5_c => k_is); (case q5_k => k_is)
    case d_l_draw =>
      refine' Mm.defIn_mk KX G ?q6_a ?q6_l ?q6_c ?q6_k; (case q6_a => k_is); (case q6_l => k_is); (case q6_c => k_is); (case q6_k => k_is)
    case d_l_pick =>
      refine' Mm.defIn_mk KX G ?q7_a ?q7_l ?q7_c ?q7_k; (case q7_a => k_is); (case q7_l => k_is); (case q7_c => k_is); (case q7_k => k_is)
    case d_l_mixed =>
      refine' Mm.defIn_mk KX G ?q8_a ?q8_l ?q8_c ?q8_k; (case q8_a => k_is); (case q8_l => k_is); (case q8_c => k_is); (case q8_k => k_is)
    case d_l_same =>
      refine' Mm.defIn_mk KX G ?q9_a ?q9_l ?q9_c ?q9_k; (case q9_a => k_is); (case q9_l => k_is); (case q9_c => k_is); (case q9_k => k_is)
    case d_l_loose =>
      refine' Mm.defIn_mk KX G ?q10_a ?q10_l ?q10_c ?q10_k; (case q10_a => k_is); (case q10_l => k_is); (case q10_c => k_is); (case q10_k => k_is)
    case d_l_lack =>
      refine' Mm.defIn_mk KX G ?q11_a ?q11_l ?q11_c ?q11_k; (case q11_a => k_is); (case q11_l => k_is); (case q11_c => k_is); (case q11_k => k_is)
    case d_l_leaped =>
      refine' Mm.defIn_mk KX G ?q12_a ?q12_l ?q12_c ?q12_k; (case q12_a => k_is); (case q12_l => k_is); (case q12_c => k_is); (case q12_k => k_is)
    case d_l_trails =>
      refine' Mm.defIn_mk KX G ?q13_a ?q13_l ?q13_c ?q13_k; (case q13_a => k_is); (case q13_l => k_is); (case q13_c => k_is); (case q13_k => k_is)
    case d_l_webbed =>
      refine' Mm.defIn_mk KX G ?q14_a ?q14_l ?q14_c ?q14_k; (case q14_a => k_is); (case q14_l => k_is); (case q14_c => k_is); (case q14_k => k_is)
    case d_l_each_once =>
      refine' Mm.defIn_mk KX G ?q15_a ?q15_l ?q15_c ?q15_k; (case q15_a => k_is); (case q15_l => k_is); (case q15_c => k_is); (case q15_k => k_is)
    case d_l_shifted =>
      refine' Mm.defIn_mk KX G ?q16_a ?q16_l ?q16_c ?q16_k; (case q16_a => k_is); (case q16_l => k_is); (case q16_c => k_is); (case q16_k => k_is)
    case d_l_joined =>
      refine' Mm.defIn_mk KX G ?q17_a ?q17_l ?q17_c ?q17_k; (case q17_a => k_is); (case q17_l => k_is); (case q17_c => k_is); (case q17_k => k_is)
    case d_l_drawn_book =>
      refine' Mm.defIn_mk KX G ?q18_a ?q18_l ?q18_c ?q18_k; (case q18_a => k_is); (case q18_l => k_is); (case q18_c => k_is); (case q18_k => k_is)
    case d_l_fitting =>
      refine' Mm.defIn_mk KX G ?q19_a ?q19_l ?q19_c ?q19_k; (case q19_a => k_is); (case q19_l => k_is); (case q19_c => k_is); (case q19_k => k_is)
    case d_l_book =>
      refine' Mm.defIn_mk KX G ?q20_a ?q20_l ?q20_c ?q20_k; (case q20_a => k_is); (case q20_l => k_is); (case q20_c => k_is); (case q20_k => k_is)
    case d_l_rows =>
      refine' Mm.defIn_mk KX G ?q21_a ?q21_l ?q21_c ?q21_k; (case q21_a => k_is); (case q21_l => k_is); (case q21_c => k_is); (case q21_k => k_is)
    case d_l_told_right =>
      refine' Mm.defIn_mk KX G ?q22_a ?q22_l ?q22_c ?q22_k; (case q22_a => k_is); (case q22_l => k_is); (case q22_c => k_is); (case q22_k => k_is)
    case d_l_unlike_right =>
      refine' Mm.defIn_mk KX G ?q23_a ?q23_l ?q23_c ?q23_k; (case q23_a => k_is); (case q23_l => k_is); (case q23_c => k_is); (case q23_k => k_is)
    case d_law =>
      refine' Mm.defIn_mk KX G ?q24_a ?q24_l ?q24_c ?q24_k; (case q24_a => k_is); (case q24_l => k_is); (case q24_c => k_is); (case q24_k => k_is)
    case n_abs =>
      refine' PySem.W.mg_none_of KX G ?q25_z; (case q25_z => k_is)
    case n_all =>
      refine' PySem.W.mg_none_of KX G ?q26_z; (case q26_z => k_is)
    case n_any =>
      refine' PySem.W.mg_none_of KX G ?q27_z; (case q27_z => k_is)
    case n_bool =>
      refine' PySem.W.mg_none_of KX G ?q28_z; (case q28_z => k_is)
    case n_dict =>
      refine' PySem.W.mg_none_of KX G ?q29_z; (case q29_z => k_is)
    case n_enumerate =>
      refine' PySem.W.mg_none_of KX G ?q30_z; (case q30_z => k_is)
    case n_int =>
      refine' PySem.W.mg_none_of KX G ?q31_z; (case q31_z => k_is)
    case n_isinstance =>
      refine' PySem.W.mg_none_of KX G ?q32_z; (case q32_z => k_is)
    case n_len =>
      refine' PySem.W.mg_none_of KX G ?q33_z; (case q33_z => k_is)
    case n_list =>
      refine' PySem.W.mg_none_of KX G ?q34_z; (case q34_z => k_is)
    case n_min =>
      refine' PySem.W.mg_none_of KX G ?q35_z; (case q35_z => k_is)
    case n_range =>
      refine' PySem.W.mg_none_of KX G ?q36_z; (case q36_z => k_is)
    case n_sorted =>
      refine' PySem.W.mg_none_of KX G ?q37_z; (case q37_z => k_is)
    case n_tuple =>
      refine' PySem.W.mg_none_of KX G ?q38_z; (case q38_z => k_is)
    case n_zip =>
      refine' PySem.W.mg_none_of KX G ?q39_z; (case q39_z => k_is)
    case a_Book =>
      refine' Mm.clsA_mk (PySem.W.mg_of KX G ?q40_a) ?q40_b ?q40_c
      (case q40_a => k_is)
      (case q40_b => (refine' ⟨?q40_pg, ?q40_hd, ?q40_po, ?q40_sa⟩; (case q40_pg => k_is); (case q40_hd => k_is); (case q40_po => k_is); (case q40_sa => k_is)))
      case q40_c =>
        intro f hf
        simp only [List.mem_cons, List.not_mem_nil, or_false] at hf
        rcases hf with rfl | rfl | rfl
        · k_is
        · k_is
        · k_is
    case kit =>
      refine' ⟨fun x hx => ?q41_kf, fun C hx => ?q41_kc⟩
      case q41_kf =>
        unfold Lw.fns at hx
        simp only [List.mem_cons, List.not_mem_nil, or_false] at hx
        rcases hx with rfl
        · (refine' Mm.kfn_mk (PySem.W.mg_of KX G ?q41_a) ?q41_b; (case q41_a => k_is); (case q41_b => k_is))
      case q41_kc =>
        unfold Lw.clss at hx
        simp only [List.mem_cons, List.not_mem_nil, or_false] at hx
        rcases hx with rfl
        · (refine' Mm.kcl_mk (PySem.W.mg_of KX G ?q41_a) ?q41_b ?q41_c ?q41_d ?q41_e ?q41_f (Mm.known_all ?q41_g0 ?q41_g1 ?q41_g2 ?q41_g3 ?q41_g4 ?q41_g5 ?q41_g6 ?q41_g7) ?q41_h; (case q41_a => k_is); (case q41_b => (refine' ⟨?q41_pg, ?q41_hd, ?q41_po, ?q41_sa⟩; (case q41_pg => k_is); (case q41_hd => k_is); (case q41_po => k_is); (case q41_sa => k_is))); (case q41_c => k_is); (case q41_d => k_is); (case q41_e => k_is); (case q41_f => k_is); (case q41_g0 => k_is); (case q41_g1 => k_is); (case q41_g2 => k_is); (case q41_g3 => k_is); (case q41_g4 => k_is); (case q41_g5 => k_is); (case q41_g6 => k_is); (case q41_g7 => k_is); (case q41_h => k_is))
    case i_Book_init =>
      refine' Mm.mkIn_mk (PySem.W.mg_of KX G ?q42_a) ?q42_m ?q42_i ?q42_fn ?q42_kp ?q42_l ?q42_c ?q42_k; (case q42_a => k_is); (case q42_m => k_is); (case q42_i => k_is); (case q42_fn => k_is); (case q42_kp => k_is); (case q42_l => k_is); (case q42_c => k_is); (case q42_k => k_is)
    case i_Book_gates =>
      refine' Mm.mtIn_mk (PySem.W.mg_of KX G ?q43_a) ?q43_b ?q43_m ?q43_fn ?q43_l ?q43_c ?q43_k; (case q43_a => k_is); (case q43_b => (refine' ⟨?q43_pg, ?q43_hd, ?q43_po, ?q43_sa⟩; (case q43_pg => k_is); (case q43_hd => k_is); (case q43_po => k_is); (case q43_sa => k_is))); (case q43_m => k_is); (case q43_fn => k_is); (case q43_l => k_is); (case q43_c => k_is); (case q43_k => k_is)
    case i_Book_ways =>
      refine' Mm.mtIn_mk (PySem.W.mg_of KX G ?q44_a) ?q44_b ?q44_m ?q44_fn ?q44_l ?q44_c ?q44_k; (case q44_a => k_is); (case q44_b => (refine' ⟨?q44_pg, ?q44_hd, ?q44_po, ?q44_sa⟩; (case q44_pg => k_is); (case q44_hd => k_is); (case q44_po => k_is); (case q44_sa => k_is))); (case q44_m => k_is); (case q44_fn => k_is); (case q44_l => k_is); (case q44_c => k_is); (case q44_k => k_is)
    case i_Book_eq =>
      refine' Mm.eqIn_mk (PySem.W.mg_of KX G ?q45_a) ?q45_i ?q45_fn ?q45_ne ?q45_mr ?q45_cl ?q45_l ?q45_c ?q45_k; (case q45_a => k_is); (case q45_i => k_is); (case q45_fn => k_is); (case q45_ne => k_is); (case q45_mr => k_is); (case q45_l => k_is); (case q45_c => k_is); (case q45_k => k_is)
      case q45_cl =>
        intro B hx Cb hb
        unfold Lw.clss at hx
        simp only [List.mem_cons, List.not_mem_nil, or_false] at hx
        rcases hx with rfl
        · (refine' Mm.cl_one (PySem.W.mg_of KX G ?q45_x) hb ?q45_y; (case q45_x => k_is); (case q45_y => exact Mm.first_self))
    case g_Book =>
      refine' Mm.glo_mk (PySem.W.mg_of KX G ?q46_a); (case q46_a => k_is)
    case g_l_pick =>
      refine' Mm.glo_mk (PySem.W.mg_of KX G ?q47_a); (case q47_a => k_is)
