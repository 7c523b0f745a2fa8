import PyProof.Rows.All
import Wide.All
import OpenK.AllK
import Wide.FinOn
import HandS.ForMost
import HandS.ForExc
import HandS.ExcInit
import HandS.CallSlots
import HandS.Small
import HandS.Style
import HandS.Wide
import HandS.TupAny
import HandS.TupMul
import HandS.TupLe
import HandS.Deep
import HandS.SortInts
import HandS.IsInst
import HandS.WordsDict
import HandS.RaiseMore
import HandS.Comp
import HandS.DictComp
import HandS.Nested
import KE.KExcSuper
import HandS.ExcIs
import HandS.TryOnly
import KE.GoesEnum
import KE.GoesMore
import HandS.Zip
import HandS.Iter
import HandS.Head0
import HandS.Head1
import HandS.Head2
import HandS.HeadEnd
import HandS.HeadHook2
import HandS.EndBits
import HandS.FStr
import HandS.Star
import PyProof.ReprRoads
import HandS.FStrTup
import HandS.TryMany
import HandS.ExcField
import HandS.NoneIn
import PySem.Challenge.RW_digitsturn_k16_errors
section
set_option Elab.async false
set_option linter.all false
set_option autoImplicit false
set_option maxRecDepth 100000
/-! Trees for values: T, with addresses A; W: all roots lie in the abstract heap. -/
namespace Tr
open PySem PySem.Spec PyProof.Rows L2

/-- the kind of a node; m: owned, may be changed -/
inductive NK where
  | tup | scr | lst (m : Bool) | dct (m : Bool) (ks : List Key) | obj (m : Bool) (c : Nat) (ns : List Str) | exc (c dd : Nat) (ns : List Str) | err (c : Nat) (ns : List Str)
  deriving DecidableEq
def NK.m : NK → Bool
  | .tup => false
  | .scr => false
  | .lst m => m
  | .dct m _ => m
  | .obj m _ _ => m
  | .exc _ _ _ => false
  | .err _ _ => false
def NK.fz : NK → NK
  | .tup => .tup
  | .scr => .scr
  | .lst _ => .lst false
  | .dct _ ks => .dct false ks
  | .obj _ c ns => .obj false c ns
  | .exc c dd ns => .exc c dd ns
  | .err c ns => .err c ns
/-- a value without addresses -/
inductive T where
  | non | bl (b : Bool) | int (i : Int) | str (x : Str) | cst (v : V) | hole | nd (k : NK) (xs : List T)
/-- a value with its addresses; hole: a place whose content stands elsewhere; w: it stands in the written part -/
inductive A where
  | non | bl (b : Bool) | int (i : Int) | str (x : Str) | cst (v : V) | hole (v : V) | nd (k : NK) (w : Bool) (a dx : Addr) (xs : List A)

def val : A → V
  | .non => .non
  | .bl b => .bl b
  | .int i => .int i
  | .str x => .str x
  | .cst v => v
  | .hole v => v
  | .nd _ _ a _ _ => .ref a
mutual
def er : A → T
  | .non => .non
  | .bl b => .bl b
  | .int i => .int i
  | .str x => .str x
  | .cst v => .cst v
  | .hole _ => .hole
  | .nd k _ _ _ xs => .nd k (erL xs)
def erL : List A → List T
  | [] => []
  | x :: xs => er x :: erL xs
end
theorem erL_map : ∀ xs, erL xs = xs.map er
  | [] => rfl
  | x :: xs => by rw [erL, erL_map xs]; rfl
def ownN (k : NK) (w : Bool) (a : Addr) : List Addr := if k.m && !w then [a] else []
def frzN (k : NK) (w : Bool) (a dx : Addr) : List Addr := if w || k.m then [] else match k with
  | .exc _ _ _ => [dx]
  | .err _ _ => [a, dx]
  | _ => [a]
mutual
def own : A → List Addr
  | .nd k w a _ xs => ownN k w a ++ ownL xs
  | _ => []
def ownL : List A → List Addr
  | [] => []
  | x :: xs => own x ++ ownL xs
end
mutual
def frz : A → List Addr
  | .nd k w a dx xs => frzN k w a dx ++ frzL xs
  | _ => []
def frzL : List A → List Addr
  | [] => []
  | x :: xs => frz x ++ frzL xs
end
theorem ownL_append : ∀ xs ys : List A, ownL (xs ++ ys) = ownL xs ++ ownL ys
  | [], _ => rfl
  | x :: xs, ys => by rw [List.cons_append, ownL, ownL, ownL_append xs ys, List.append_assoc]
theorem frzL_append : ∀ xs ys : List A, frzL (xs ++ ys) = frzL xs ++ frzL ys
  | [], _ => rfl
  | x :: xs, ys => by rw [List.cons_append, frzL, frzL, frzL_append xs ys, List.append_assoc]

/-- what the text says: the frame part, the classes' addresses -/
structure Tab where
  K : PySem.W.Frag
  ct : Nat → Addr
  ef : Nat → List Str

def NodeOk (B : Tab) (H : Hp) (k : NK) (w : Bool) (a dx : Addr) (vs : List V) : Prop :=
  match k with
  | .tup => if w then ∀ H', SqT B.K H' a vs else H a = some (.tup vs)
  | .scr => if w then ∀ H', SqL B.K H' a vs else ∃ o, H a = some (.frz o (.lst vs))
  | .lst _ => w = false ∧ H a = some (.lst vs)
  | .dct _ ks => w = false ∧ ks.length = vs.length ∧ ks.Nodup ∧ H a = some (.dK (ks.zip vs))
  | .obj _ c ns => w = false ∧ ns.length = vs.length ∧ Cls B.K (B.ct c) ∧ (∀ f ∈ ns, NoAttr B.K (B.ct c) f) ∧ H a = some (.ins (B.ct c) dx (ns.zip vs))
  | .exc c dd ns => w = false ∧ c = a ∧ dd = dx ∧ ns.length = vs.length ∧ H dx = some (.xd (ns.zip vs))
  | .err c ns => w = false ∧ ns.length = vs.length ∧ ((ns = [] ∧ dx = a ∧ H a = some (exo a (B.ct c) none)) ∨ (H a = some (exo a (B.ct c) (some dx)) ∧ H dx = some (exd dx (ns.zip vs))))
mutual
def Ok (B : Tab) (H : Hp) : A → Prop
  | .nd k w a dx xs => NodeOk B H k w a dx (xs.map val) ∧ OkL B H xs ∧ (k.m = false → ownL xs = [])
  | _ => True
def OkL (B : Tab) (H : Hp) : List A → Prop
  | [] => True
  | x :: xs => Ok B H x ∧ OkL B H xs
end
theorem okL_append {B : Tab} {H : Hp} : ∀ {xs ys : List A}, OkL B H (xs ++ ys) ↔ OkL B H xs ∧ OkL B H ys
  | [], ys => by simp [OkL]
  | x :: xs, ys => by rw [List.cons_append, OkL, OkL, okL_append (xs := xs), and_assoc]
theorem okL_iff {B : Tab} {H : Hp} : ∀ {xs : List A}, OkL B H xs ↔ ∀ x ∈ xs, Ok B H x
  | [] => by simp [OkL]
  | x :: xs => by rw [OkL, okL_iff (xs := xs)]; simp
theorem mem_ownL {b : Addr} : ∀ {xs : List A}, b ∈ ownL xs ↔ ∃ x ∈ xs, b ∈ own x
  | [] => by simp [ownL]
  | x :: xs => by rw [ownL, List.mem_append, mem_ownL (xs := xs)]; simp
theorem mem_frzL {b : Addr} : ∀ {xs : List A}, b ∈ frzL xs ↔ ∃ x ∈ xs, b ∈ frz x
  | [] => by simp [frzL]
  | x :: xs => by rw [frzL, List.mem_append, mem_frzL (xs := xs)]; simp

/-- a node leans on its own addresses alone -/
theorem NodeOk.stay {B : Tab} {H H' : Hp} {k : NK} {w : Bool} {a dx : Addr} {vs : List V} (h : NodeOk B H k w a dx vs) (hk : ∀ b, b ∈ ownN k w a ∨ b ∈ frzN k w a dx → ∀ o, H b = some o → H' b = some o) : NodeOk B H' k w a dx vs := by
  cases k with
  | tup =>
    cases w with
    | true => exact h
    | false => exact hk a (.inr (by simp [frzN, NK.m])) _ h
  | scr =>
    cases w with
    | true => exact h
    | false => obtain ⟨o, h⟩ := h; exact ⟨o, hk a (.inr (by simp [frzN, NK.m])) _ h⟩
  | lst m =>
    obtain ⟨rfl, h⟩ := h
    refine ⟨rfl, hk a ?_ _ h⟩
    cases m with
    | true => exact .inl (by simp [ownN, NK.m])
    | false => exact .inr (by simp [frzN, NK.m])
  | dct m ks =>
    obtain ⟨rfl, z, z2, h⟩ := h
    refine ⟨rfl, z, z2, hk a ?_ _ h⟩
    cases m with
    | true => exact .inl (by simp [ownN, NK.m])
    | false => exact .inr (by simp [frzN, NK.m])
  | obj m c ns =>
    obtain ⟨rfl, z, z1, z2, h⟩ := h
    refine ⟨rfl, z, z1, z2, hk a ?_ _ h⟩
    cases m with
    | true => exact .inl (by simp [ownN, NK.m])
    | false => exact .inr (by simp [frzN, NK.m])
  | exc c dd ns =>
    obtain ⟨rfl, z0, z1, z, h⟩ := h
    exact ⟨rfl, z0, z1, z, hk dx (.inr (by simp [frzN, NK.m])) _ h⟩
  | err c ns =>
    obtain ⟨rfl, z, h⟩ := h
    refine ⟨rfl, z, ?_⟩
    rcases h with ⟨h1, h2, h3⟩ | ⟨h1, h2⟩
    · exact .inl ⟨h1, h2, hk a (.inr (by simp [frzN, NK.m])) _ h3⟩
    · exact .inr ⟨hk a (.inr (by simp [frzN, NK.m])) _ h1, hk dx (.inr (by simp [frzN, NK.m])) _ h2⟩
/-- what a node leans on is there -/
theorem NodeOk.some {B : Tab} {H : Hp} {k : NK} {w : Bool} {a dx : Addr} {vs : List V} (h : NodeOk B H k w a dx vs) {b : Addr} (hb : b ∈ ownN k w a ∨ b ∈ frzN k w a dx) : ∃ o, H b = some o := by
  cases k with
  | tup =>
    cases w with
    | true => simp [ownN, frzN, NK.m] at hb
    | false => simp [ownN, frzN, NK.m] at hb; subst hb; exact ⟨_, h⟩
  | scr =>
    cases w with
    | true => simp [ownN, frzN, NK.m] at hb
    | false => obtain ⟨o, h⟩ := h; simp [ownN, frzN, NK.m] at hb; subst hb; exact ⟨_, h⟩
  | lst m =>
    obtain ⟨rfl, h⟩ := h
    cases m <;> (simp [ownN, frzN, NK.m] at hb; subst hb; exact ⟨_, h⟩)
  | dct m ks =>
    obtain ⟨rfl, z, _, h⟩ := h
    cases m <;> (simp [ownN, frzN, NK.m] at hb; subst hb; exact ⟨_, h⟩)
  | obj m c ns =>
    obtain ⟨rfl, z, _, _, h⟩ := h
    cases m <;> (simp [ownN, frzN, NK.m] at hb; subst hb; exact ⟨_, h⟩)
  | exc c dd ns =>
    obtain ⟨rfl, _, _, z, h⟩ := h
    simp [ownN, frzN, NK.m] at hb; subst hb; exact ⟨_, h⟩
  | err c ns =>
    obtain ⟨rfl, z, h⟩ := h
    simp [ownN, frzN, NK.m] at hb
    rcases h with ⟨h1, rfl, h3⟩ | ⟨h1, h2⟩
    · rcases hb with rfl | rfl <;> exact ⟨_, h3⟩
    · rcases hb with rfl | rfl
      · exact ⟨_, h1⟩
      · exact ⟨_, h2⟩

mutual
theorem Ok.stay {B : Tab} {H H' : Hp} : ∀ {x : A}, Ok B H x → (∀ b, b ∈ own x ∨ b ∈ frz x → ∀ o, H b = some o → H' b = some o) → Ok B H' x
  | .non, _, _ => trivial
  | .bl _, _, _ => trivial
  | .int _, _, _ => trivial
  | .str _, _, _ => trivial
  | .cst _, _, _ => trivial
  | .hole _, _, _ => trivial
  | .nd k w a dx xs, h, hk => by
    refine ⟨h.1.stay fun b hb => hk b ?_, OkL.stay h.2.1 fun b hb => hk b ?_, h.2.2⟩
    · rw [own, frz, List.mem_append, List.mem_append]
      rcases hb with hb | hb
      · exact .inl (.inl hb)
      · exact .inr (.inl hb)
    · rw [own, frz, List.mem_append, List.mem_append]
      rcases hb with hb | hb
      · exact .inl (.inr hb)
      · exact .inr (.inr hb)
theorem OkL.stay {B : Tab} {H H' : Hp} : ∀ {xs : List A}, OkL B H xs → (∀ b, b ∈ ownL xs ∨ b ∈ frzL xs → ∀ o, H b = some o → H' b = some o) → OkL B H' xs
  | [], _, _ => trivial
  | x :: xs, h, hk => by
    refine ⟨Ok.stay h.1 fun b hb => hk b ?_, OkL.stay h.2 fun b hb => hk b ?_⟩
    · rw [ownL, frzL, List.mem_append, List.mem_append]
      rcases hb with hb | hb
      · exact .inl (.inl hb)
      · exact .inr (.inl hb)
    · rw [ownL, frzL, List.mem_append, List.mem_append]
      rcases hb with hb | hb
      · exact .inl (.inr hb)
      · exact .inr (.inr hb)
end
mutual
theorem Ok.some {B : Tab} {H : Hp} : ∀ {x : A}, Ok B H x → ∀ {b}, b ∈ own x ∨ b ∈ frz x → ∃ o, H b = some o
  | .non, _, _, hb => by simp [own, frz] at hb
  | .bl _, _, _, hb => by simp [own, frz] at hb
  | .int _, _, _, hb => by simp [own, frz] at hb
  | .str _, _, _, hb => by simp [own, frz] at hb
  | .cst _, _, _, hb => by simp [own, frz] at hb
  | .hole _, _, _, hb => by simp [own, frz] at hb
  | .nd k w a dx xs, h, b, hb => by
    rw [own, frz, List.mem_append, List.mem_append] at hb
    rcases hb with (hb | hb) | (hb | hb)
    · exact h.1.some (.inl hb)
    · exact OkL.some h.2.1 (.inl hb)
    · exact h.1.some (.inr hb)
    · exact OkL.some h.2.1 (.inr hb)
theorem OkL.some {B : Tab} {H : Hp} : ∀ {xs : List A}, OkL B H xs → ∀ {b}, b ∈ ownL xs ∨ b ∈ frzL xs → ∃ o, H b = some o
  | [], _, _, hb => by simp [ownL, frzL] at hb
  | x :: xs, h, b, hb => by
    rw [ownL, frzL, List.mem_append, List.mem_append] at hb
    rcases hb with (hb | hb) | (hb | hb)
    · exact Ok.some h.1 (.inl hb)
    · exact OkL.some h.2 (.inl hb)
    · exact Ok.some h.1 (.inr hb)
    · exact OkL.some h.2 (.inr hb)
end

/-- two lists of the same things, by any way to count them -/
theorem perm_of {α : Type} {xs ys : List α} (h : ∀ (f : List α → Nat) (g : α → Nat), (∀ a b, f (a ++ b) = f a + f b) → (∀ x l, f (x :: l) = g x + f l) → f [] = 0 → f xs = f ys) : xs.Perm ys := by
  haveI : DecidableEq α := fun a b => Classical.propDecidable (a = b)
  refine List.perm_iff_count.mpr fun a => ?_
  refine h (List.count a) (fun x => if x == a then 1 else 0) (fun _ _ => List.count_append) (fun x l => ?_) List.count_nil
  rw [List.count_cons]
  omega
/-- all roots lie in the heap; what is owned stands apart -/
structure W (B : Tab) (H : Hp) (R : List A) : Prop where
  ok : OkL B H R
  nd : (ownL R).Nodup
  ap : ∀ b ∈ ownL R, b ∉ frzL R
section
variable {B : Tab} {H H' : Hp} {R R' : List A} {x y : A} {xs ys : List A}
/-- fewer roots, in any order; frozen ones as often as one wants -/
theorem W.sub (h : W B H R) (hm : ∀ x ∈ R', Ok B H x) (hn : (ownL R').Nodup) (ho : ∀ b ∈ ownL R', b ∈ ownL R) (hf : ∀ b ∈ frzL R', b ∈ frzL R ∨ (b ∈ ownL R ∧ b ∉ ownL R')) : W B H R' where
  ok := okL_iff.mpr hm
  nd := hn
  ap := fun b hb hf' => by
    rcases hf b hf' with z | ⟨_, z⟩
    · exact h.ap b (ho b hb) z
    · exact z hb
theorem W.perm (h : W B H R) (p : R'.Perm R) : W B H R' := by
  have po : (ownL R').Perm (ownL R) := by
    clear h
    induction p with
    | nil => exact .refl _
    | cons x _ ih => exact ih.append_left _
    | swap x y l => rw [ownL, ownL, ownL, ownL, ← List.append_assoc, ← List.append_assoc]; exact List.Perm.append_right _ List.perm_append_comm
    | trans _ _ i1 i2 => exact i1.trans i2
  refine h.sub (fun x hx => okL_iff.mp h.ok x (p.mem_iff.mp hx)) (po.nodup_iff.mpr h.nd) (fun b hb => po.mem_iff.mp hb) fun b hb => .inl ?_
  obtain ⟨x, hx, hb⟩ := mem_frzL.mp hb
  exact mem_frzL.mpr ⟨x, p.mem_iff.mp hx, hb⟩
theorem W.right (h : W B H (xs ++ ys)) : W B H ys := by
  have o := ownL_append xs ys
  have n := h.nd
  rw [o] at n
  refine h.sub (fun x hx => okL_iff.mp h.ok x (List.mem_append_right _ hx)) (List.nodup_append.mp n).2.1 (fun b hb => ?_) fun b hb => .inl ?_
  · rw [o]; exact List.mem_append_right _ hb
  · rw [frzL_append]; exact List.mem_append_right _ hb
theorem W.left (h : W B H (xs ++ ys)) : W B H xs := (h.perm (List.perm_append_comm)).right
theorem W.drop (h : W B H (x :: R)) : W B H R := W.right (xs := [x]) h
theorem W.swap (h : W B H (x :: y :: R)) : W B H (y :: x :: R) := h.perm (.swap x y R)
theorem W.mid (h : W B H (xs ++ x :: ys)) : W B H (x :: (xs ++ ys)) := h.perm List.perm_middle.symm
theorem W.toMid (h : W B H (x :: (xs ++ ys))) : W B H (xs ++ x :: ys) := h.perm List.perm_middle
theorem W.head (h : W B H (x :: R)) : Ok B H x := h.ok.1
/-- the heap changes outside of what the roots hold -/
theorem W.stay (h : W B H R) (hk : ∀ b, b ∈ ownL R ∨ b ∈ frzL R → ∀ o, H b = some o → H' b = some o) : W B H' R := ⟨OkL.stay h.ok hk, h.nd, h.ap⟩
theorem W.fresh (h : W B H R) {p : Addr} (hp : H p = none) : p ∉ ownL R ∧ p ∉ frzL R := by
  refine ⟨fun z => ?_, fun z => ?_⟩
  · obtain ⟨o, e⟩ := OkL.some h.ok (.inl z)
    rw [hp] at e; cases e
  · obtain ⟨o, e⟩ := OkL.some h.ok (.inr z)
    rw [hp] at e; cases e
theorem W.laid (h : W B H R) {p : Addr} {o : HO} (hp : H p = none) : W B (upd H p o) R := h.stay fun b _ u e => by
  rw [upd_ne (ne_of_none e hp)]
  exact e
/-- atoms -/
theorem W.atom (h : W B H R) (h1 : own x = []) (h2 : frz x = []) (h3 : Ok B H x) : W B H (x :: R) := by
  refine ⟨⟨h3, h.ok⟩, ?_, ?_⟩
  · rw [ownL, h1]; exact h.nd
  · rw [ownL, h1, frzL, h2]; exact h.ap
theorem W.non (h : W B H R) : W B H (.non :: R) := h.atom rfl rfl trivial
theorem W.bl (h : W B H R) {b : Bool} : W B H (.bl b :: R) := h.atom rfl rfl trivial
theorem W.int (h : W B H R) {i : Int} : W B H (.int i :: R) := h.atom rfl rfl trivial
theorem W.str (h : W B H R) {s : Str} : W B H (.str s :: R) := h.atom rfl rfl trivial
theorem W.cst (h : W B H R) {v : V} : W B H (.cst v :: R) := h.atom rfl rfl trivial
/-- a frozen root once more -/
theorem W.dup (h : W B H (x :: R)) (hx : own x = []) : W B H (x :: x :: R) := by
  refine h.sub (fun y hy => okL_iff.mp h.ok y (by simpa using hy)) ?_ (fun b hb => ?_) fun b hb => .inl ?_
  · rw [ownL, hx]; exact h.nd
  · rw [ownL, hx] at hb; exact hb
  · rw [frzL, List.mem_append] at hb
    rcases hb with hb | hb
    · rw [frzL]; exact List.mem_append_left _ hb
    · exact hb
/-- a node's children in its place -/
theorem W.open {k : NK} {w : Bool} {a dx : Addr} (h : W B H (.nd k w a dx xs :: R)) : W B H (xs ++ R) := by
  have n := h.nd
  rw [ownL, own, List.append_assoc] at n
  have ho := ownL_append xs R
  refine h.sub (fun y hy => ?_) (by rw [ho]; exact (List.nodup_append.mp n).2.1) (fun b hb => ?_) fun b hb => .inl ?_
  · rcases List.mem_append.mp hy with z | z
    · exact okL_iff.mp h.head.2.1 y z
    · exact okL_iff.mp h.drop.ok y z
  · rw [ho] at hb
    rw [ownL, own, List.append_assoc]
    exact List.mem_append_right _ hb
  · rw [frzL_append] at hb
    rw [frzL, frz, List.append_assoc]
    exact List.mem_append_right _ hb
/-- a new node of some of the roots -/
theorem W.node {k : NK} {p dx : Addr} {o : HO} (h : W B H (xs ++ R)) (hp : H p = none) (hn : NodeOk B (upd H p o) k false p dx (xs.map val)) (he : ∀ c dd ns, k ≠ .exc c dd ns) (hm : k.m = false → ownL xs = []) (he2 : ∀ c ns, k ≠ .err c ns := by intro _ _ z; cases z) : W B (upd H p o) (.nd k false p dx xs :: R) := by
  have h1 : W B (upd H p o) (xs ++ R) := h.laid hp
  obtain ⟨f1, f2⟩ := h.fresh hp
  have ho := ownL_append xs R
  have hf := frzL_append xs R
  have efr : frzN k false p dx = if k.m then [] else [p] := by
    unfold frzN
    cases k with
    | exc c dd ns => exact absurd rfl (he c dd ns)
    | err c ns => exact absurd rfl (he2 c ns)
    | tup => rfl
    | scr => rfl
    | lst m => cases m <;> rfl
    | dct m ks => cases m <;> rfl
    | obj m c ns => cases m <;> rfl
  refine ⟨⟨⟨hn, (okL_append.mp h1.ok).1, hm⟩, (okL_append.mp h1.ok).2⟩, ?_, ?_⟩
  · rw [ownL, own, List.append_assoc, ← ho]
    unfold ownN
    cases k.m with
    | true => exact List.nodup_cons.mpr ⟨f1, h.nd⟩
    | false => exact h.nd
  · intro b hb hb'
    rw [ownL, own, List.append_assoc, ← ho] at hb
    rw [frzL, frz, List.append_assoc, ← hf, efr] at hb'
    unfold ownN at hb
    cases hk : k.m with
    | true =>
      rw [hk] at hb hb'
      simp at hb hb'
      rcases hb with rfl | hb
      · exact f2 hb'
      · exact h.ap b hb hb'
    | false =>
      rw [hk] at hb hb'
      simp at hb hb'
      rcases hb' with rfl | hb'
      · exact f1 hb
      · exact h.ap b hb hb'
/-- an owned node's content changes: some of the roots come in, others fall out -/
theorem W.chg {k k' : NK} {a dx : Addr} {o : HO} (h : W B H (.nd k false a dx xs :: R)) (hk : k.m = true) (hk' : k'.m = true) (hR : W B H (ys ++ R')) (ho : ∀ b ∈ ownL (ys ++ R'), b ∈ ownL (xs ++ R)) (hf : ∀ b ∈ frzL (ys ++ R'), b ∈ frzL (xs ++ R) ∨ b ∈ ownL (xs ++ R))
    (hn : NodeOk B (upd H a o) k' false a dx (ys.map val)) : W B (upd H a o) (.nd k' false a dx ys :: R') := by
  have n := h.nd
  rw [ownL, own, List.append_assoc, ← ownL_append] at n
  have hkn : ownN k false a = [a] := by simp [ownN, hk]
  rw [hkn] at n
  have na : a ∉ ownL (xs ++ R) := (List.nodup_cons.mp n).1
  have nf : a ∉ frzL (xs ++ R) := by
    have z := h.ap a (by rw [ownL, own, hkn]; simp)
    rw [frzL, frz, List.append_assoc, ← frzL_append] at z
    exact fun q => z (List.mem_append_right _ q)
  have nf' : a ∉ frzL (ys ++ R') := fun q => by
    rcases hf a q with z | z
    · exact nf z
    · exact na z
  have no' : a ∉ ownL (ys ++ R') := fun q => na (ho a q)
  have h1 : W B (upd H a o) (ys ++ R') := hR.stay fun b hb u e => by
    rw [upd_ne]
    · exact e
    · rintro rfl
      rcases hb with hb | hb
      · exact no' hb
      · exact nf' hb
  refine ⟨⟨⟨hn, (okL_append.mp h1.ok).1, fun z => by rw [hk'] at z; cases z⟩, (okL_append.mp h1.ok).2⟩, ?_, ?_⟩
  · rw [ownL, own, List.append_assoc, ← ownL_append]
    simp only [ownN, hk', Bool.not_false, Bool.and_true, if_true, List.singleton_append]
    exact List.nodup_cons.mpr ⟨no', hR.nd⟩
  · intro b hb hb'
    rw [ownL, own, List.append_assoc, ← ownL_append] at hb
    rw [frzL, frz, List.append_assoc, ← frzL_append] at hb'
    simp [ownN, frzN, hk'] at hb hb'
    rcases hb with rfl | hb
    · exact nf' hb'
    · exact hR.ap b hb hb'
end

/-! ### freezing -/
mutual
def fz : A → A
  | .nd k w a dx xs => if k.m then .nd k.fz w a dx (fzL xs) else .nd k w a dx xs
  | x => x
def fzL : List A → List A
  | [] => []
  | x :: xs => fz x :: fzL xs
end
mutual
def T.fz : T → T
  | .nd k xs => if k.m then .nd k.fz (T.fzL xs) else .nd k xs
  | x => x
def T.fzL : List T → List T
  | [] => []
  | x :: xs => T.fz x :: T.fzL xs
end
theorem val_fz : ∀ x, val (fz x) = val x
  | .non => rfl
  | .bl _ => rfl
  | .int _ => rfl
  | .str _ => rfl
  | .cst _ => rfl
  | .hole _ => rfl
  | .nd k w a dx xs => by unfold fz; split <;> rfl
theorem mval_fzL : ∀ xs, (fzL xs).map val = xs.map val
  | [] => rfl
  | x :: xs => by rw [fzL, List.map_cons, List.map_cons, val_fz, mval_fzL xs]
theorem NK.fz_m (k : NK) : k.fz.m = false := by cases k <;> rfl
mutual
theorem er_fz : ∀ x, er (fz x) = (er x).fz
  | .non => rfl
  | .bl _ => rfl
  | .int _ => rfl
  | .str _ => rfl
  | .cst _ => rfl
  | .hole _ => rfl
  | .nd k w a dx xs => by
    rw [fz, er, T.fz]
    split
    · rw [er, erL_fz xs]
    · rfl
theorem erL_fz : ∀ xs, erL (fzL xs) = T.fzL (erL xs)
  | [] => rfl
  | x :: xs => by rw [fzL, erL, erL, T.fzL, er_fz x, erL_fz xs]
end
theorem NodeOk.fz {B : Tab} {H : Hp} {k : NK} {w : Bool} {a dx : Addr} {vs : List V} (h : NodeOk B H k w a dx vs) : NodeOk B H k.fz w a dx vs := by
  cases k with
  | tup => exact h
  | scr => exact h
  | lst m => exact h
  | dct m ks => exact h
  | obj m c ns => exact h
  | exc c dd ns => exact h
  | err c ns => exact h
theorem NodeOk.w_of {B : Tab} {H : Hp} {k : NK} {w : Bool} {a dx : Addr} {vs : List V} (h : NodeOk B H k w a dx vs) (hm : k.m = true) : w = false := by
  cases k with
  | tup => cases hm
  | scr => cases hm
  | lst m => cases (show m = true from hm); exact h.1
  | dct m ks => cases (show m = true from hm); exact h.1
  | obj m c ns => exact h.1
  | exc c dd ns => cases hm
  | err c ns => cases hm
theorem frzN_fz {k : NK} {w : Bool} {a dx : Addr} (hm : k.m = true) (hw : w = false) : frzN k.fz w a dx = [a] ∧ ownN k w a = [a] := by
  subst hw
  cases k with
  | tup => cases hm
  | scr => cases hm
  | lst m => cases (show m = true from hm); exact ⟨rfl, rfl⟩
  | dct m ks => cases (show m = true from hm); exact ⟨rfl, rfl⟩
  | obj m c ns => cases (show m = true from hm); exact ⟨rfl, rfl⟩
  | exc c dd ns => cases hm
  | err c ns => cases hm
mutual
theorem fz_ok {B : Tab} {H : Hp} : ∀ {x : A}, Ok B H x → Ok B H (fz x) ∧ own (fz x) = [] ∧ ∀ b, b ∈ frz (fz x) ↔ b ∈ own x ∨ b ∈ frz x
  | .non, _ => ⟨trivial, rfl, fun b => by simp [fz, own, frz]⟩
  | .bl _, _ => ⟨trivial, rfl, fun b => by simp [fz, own, frz]⟩
  | .int _, _ => ⟨trivial, rfl, fun b => by simp [fz, own, frz]⟩
  | .str _, _ => ⟨trivial, rfl, fun b => by simp [fz, own, frz]⟩
  | .cst _, _ => ⟨trivial, rfl, fun b => by simp [fz, own, frz]⟩
  | .hole _, _ => ⟨trivial, rfl, fun b => by simp [fz, own, frz]⟩
  | .nd k w a dx xs, h => by
    obtain ⟨h1, h2, h3⟩ := h
    cases hm : k.m with
    | true =>
      obtain ⟨i1, i2, i3⟩ := fzL_ok h2
      have e : fz (.nd k w a dx xs) = .nd k.fz w a dx (fzL xs) := by rw [fz, if_pos hm]
      obtain ⟨f1, f2⟩ := frzN_fz (a := a) (dx := dx) hm (h1.w_of hm)
      have f3 : frzN k w a dx = [] := by unfold frzN; rw [hm]; simp
      have f4 : ownN k.fz w a = [] := by unfold ownN; rw [NK.fz_m]; simp
      rw [e]
      refine ⟨⟨by rw [mval_fzL]; exact h1.fz, i1, fun _ => i2⟩, by rw [own, f4, i2]; rfl, fun b => ?_⟩
      rw [frz, own, frz, f1, f2, f3, List.mem_append, i3 b]
      simp [or_assoc]
    | false =>
      have e : fz (.nd k w a dx xs) = .nd k w a dx xs := by rw [fz, if_neg (by rw [hm]; decide)]
      have f4 : own (.nd k w a dx xs) = [] := by
        rw [own, h3 hm]
        unfold ownN
        rw [hm]
        rfl
      rw [e]
      exact ⟨⟨h1, h2, h3⟩, f4, fun b => by rw [f4]; simp⟩
theorem fzL_ok {B : Tab} {H : Hp} : ∀ {xs : List A}, OkL B H xs → OkL B H (fzL xs) ∧ ownL (fzL xs) = [] ∧ ∀ b, b ∈ frzL (fzL xs) ↔ b ∈ ownL xs ∨ b ∈ frzL xs
  | [], _ => ⟨trivial, rfl, fun b => by simp [fzL, ownL, frzL]⟩
  | x :: xs, h => by
    obtain ⟨a1, a2, a3⟩ := fz_ok h.1
    obtain ⟨b1, b2, b3⟩ := fzL_ok h.2
    refine ⟨⟨a1, b1⟩, by rw [fzL, ownL, a2, b2]; rfl, fun b => ?_⟩
    rw [fzL, frzL, ownL, frzL, List.mem_append, List.mem_append, List.mem_append, a3 b, b3 b]
    constructor
    · rintro ((z | z) | (z | z))
      · exact .inl (.inl z)
      · exact .inr (.inl z)
      · exact .inl (.inr z)
      · exact .inr (.inr z)
    · rintro ((z | z) | (z | z))
      · exact .inl (.inl z)
      · exact .inr (.inl z)
      · exact .inl (.inr z)
      · exact .inr (.inr z)
end
section
variable {B : Tab} {H H' : Hp} {R R' : List A} {x y : A} {xs ys : List A}
theorem W.fz (h : W B H (x :: R)) : W B H (Tr.fz x :: R) := by
  obtain ⟨a1, a2, a3⟩ := fz_ok h.head
  have n := h.nd
  rw [ownL] at n
  refine h.sub (fun y hy => ?_) (by rw [ownL, a2]; exact (List.nodup_append.mp n).2.1) (fun b hb => ?_) fun b hb => ?_
  · rcases List.mem_cons.mp hy with rfl | z
    · exact a1
    · exact okL_iff.mp h.drop.ok y z
  · rw [ownL, a2] at hb
    rw [ownL]; exact List.mem_append_right _ hb
  · rw [frzL, List.mem_append, a3 b] at hb
    rcases hb with (z | z) | z
    · refine .inr ⟨by rw [ownL]; exact List.mem_append_left _ z, ?_⟩
      rw [ownL, a2]
      exact fun q => (List.nodup_append.mp n).2.2 b z b q rfl
    · exact .inl (by rw [frzL]; exact List.mem_append_left _ z)
    · exact .inl (by rw [frzL]; exact List.mem_append_right _ z)
theorem W.own_fz (h : W B H (x :: R)) : own (Tr.fz x) = [] := (fz_ok h.head).2.1
theorem W.fz2 (h : W B H (x :: R)) : W B H (Tr.fz x :: Tr.fz x :: R) := h.fz.dup h.own_fz
/-- what is frozen already -/
theorem fz_id (hx : (er x).fz = er x) (h : Ok B H x) : own x = [] := by
  cases x with
  | nd k w a dx xs =>
    cases hm : k.m with
    | true =>
      rw [er, T.fz, if_pos hm] at hx
      have e := congrArg (fun t => match t with | T.nd k _ => k.m | _ => false) hx
      simp [NK.fz_m, hm] at e
    | false =>
      rw [own, h.2.2 hm]
      unfold ownN
      rw [hm]
      rfl
  | _ => rfl
end

/-! ### places within a root: the numbers of the children on the way -/
def aget : A → List Nat → Option A
  | x, [] => some x
  | .nd _ _ _ _ xs, i :: p => (xs[i]?).bind fun y => aget y p
  | _, _ :: _ => none
def aset : A → List Nat → A → A
  | _, [], y => y
  | .nd k w a dx xs, i :: p, y => match xs[i]? with
    | some x => .nd k w a dx (xs.set i (aset x p y))
    | none => .nd k w a dx xs
  | x, _ :: _, _ => x
def T.get : T → List Nat → Option T
  | x, [] => some x
  | .nd _ xs, i :: p => (xs[i]?).bind fun y => T.get y p
  | _, _ :: _ => none
/-- all nodes on the way are owned -/
def T.pown : T → List Nat → Bool
  | _, [] => true
  | .nd k xs, i :: p => k.m && match xs[i]? with
    | some y => T.pown y p
    | none => false
  | _, _ :: _ => false
def T.set : T → List Nat → T → T
  | _, [], y => y
  | .nd k xs, i :: p, y => match xs[i]? with
    | some x => .nd k (xs.set i (T.set x p y))
    | none => .nd k xs
  | x, _ :: _, _ => x
theorem erL_get (xs : List A) (i : Nat) : (erL xs)[i]? = (xs[i]?).map er := by rw [erL_map, List.getElem?_map]
theorem er_aget : ∀ (p : List Nat) (x : A), (er x).get p = (aget x p).map er
  | [], x => by cases x <;> simp [aget, T.get]
  | i :: p, .nd k w a dx xs => by
    rw [er, aget, T.get, erL_get]
    cases xs[i]? with
    | none => rfl
    | some y => exact er_aget p y
  | _ :: _, .non => rfl
  | _ :: _, .bl _ => rfl
  | _ :: _, .int _ => rfl
  | _ :: _, .str _ => rfl
  | _ :: _, .cst _ => rfl
  | _ :: _, .hole _ => rfl
theorem er_aset : ∀ (p : List Nat) (x y : A), er (aset x p y) = (er x).set p (er y)
  | [], x, y => by cases x <;> simp [aset, T.set]
  | i :: p, .nd k w a dx xs, y => by
    rw [er, aset, T.set, erL_get]
    cases e : xs[i]? with
    | none => simp [er]
    | some z =>
      simp only [Option.map_some]
      rw [er, erL_map, List.map_set, er_aset p z y, erL_map]
  | _ :: _, .non, _ => rfl
  | _ :: _, .bl _, _ => rfl
  | _ :: _, .int _, _ => rfl
  | _ :: _, .str _, _ => rfl
  | _ :: _, .cst _, _ => rfl
  | _ :: _, .hole _, _ => rfl
theorem set_same {α : Type} : ∀ {xs : List α} {i : Nat} {x : α}, xs[i]? = some x → xs.set i x = xs
  | [], _, _, h => by simp at h
  | x :: xs, 0, z, h => by simp at h; subst h; rfl
  | x :: xs, i + 1, z, h => by rw [List.set_cons_succ, set_same (xs := xs) (i := i) (by simpa using h)]
theorem set_perm {α : Type} : ∀ {xs : List α} {i : Nat} {x : α} (y : α), xs[i]? = some x → ∃ l, xs.Perm (x :: l) ∧ (xs.set i y).Perm (y :: l)
  | [], _, _, _, h => by simp at h
  | x :: xs, 0, z, y, h => by simp at h; subst h; exact ⟨xs, .refl _, .refl _⟩
  | x :: xs, i + 1, z, y, h => by
    obtain ⟨l, h1, h2⟩ := set_perm (xs := xs) (i := i) y (by simpa using h)
    exact ⟨x :: l, (h1.cons x).trans (.swap _ _ _), (h2.cons x).trans (.swap _ _ _)⟩
theorem ownL_perm {xs ys : List A} (p : xs.Perm ys) : (ownL xs).Perm (ownL ys) := by
  induction p with
  | nil => exact .refl _
  | cons x _ ih => exact ih.append_left _
  | swap x y l => rw [ownL, ownL, ownL, ownL, ← List.append_assoc, ← List.append_assoc]; exact List.Perm.append_right _ List.perm_append_comm
  | trans _ _ i1 i2 => exact i1.trans i2
theorem frzL_perm {xs ys : List A} (p : xs.Perm ys) : (frzL xs).Perm (frzL ys) := by
  induction p with
  | nil => exact .refl _
  | cons x _ ih => exact ih.append_left _
  | swap x y l => rw [frzL, frzL, frzL, frzL, ← List.append_assoc, ← List.append_assoc]; exact List.Perm.append_right _ List.perm_append_comm
  | trans _ _ i1 i2 => exact i1.trans i2
/-- the way to a place: what stands around it -/
theorem aset_spec {B : Tab} {H : Hp} : ∀ (p : List Nat) (r x : A), Ok B H r → aget r p = some x → ∃ C F : List Addr, ∀ y, val y = val x → Ok B H y → (own y = [] ∨ (er r).pown p = true) → (own r).Perm (own x ++ C) ∧ (frz r).Perm (frz x ++ F) ∧
      (own (aset r p y)).Perm (own y ++ C) ∧ (frz (aset r p y)).Perm (frz y ++ F) ∧ Ok B H (aset r p y) ∧ val (aset r p y) = val r
  | [], r, x, h, e => by
    have e' : r = x := by cases r <;> exact Option.some.inj e
    subst e'
    refine ⟨[], [], fun y hv hy _ => ?_⟩
    have e2 : aset r [] y = y := by cases r <;> rfl
    rw [e2]
    simp [hv, hy]
  | i :: p, .nd k w a dx xs, x, h, e => by
    obtain ⟨h1, h2, h3⟩ := h
    rw [aget] at e
    cases ei : xs[i]? with
    | none => rw [ei] at e; simp at e
    | some z =>
      rw [ei] at e
      simp only [Option.bind_some] at e
      have hz : Ok B H z := okL_iff.mp h2 z (List.mem_of_getElem? ei)
      obtain ⟨C, F, ih⟩ := aset_spec p z x hz e
      obtain ⟨l, p1, _⟩ := set_perm z ei
      refine ⟨C ++ (ownL l ++ ownN k w a), F ++ (frzL l ++ frzN k w a dx), fun y hv hy hc => ?_⟩
      have hc' : own y = [] ∨ (er z).pown p = true ∧ k.m = true := by
        rcases hc with hc | hc
        · exact .inl hc
        · rw [er, T.pown, erL_get, ei] at hc
          simp only [Option.map_some, Bool.and_eq_true] at hc
          exact .inr ⟨hc.2, hc.1⟩
      obtain ⟨i1, i2, i3, i4, i5, i6⟩ := ih y hv hy (hc'.imp id fun q => q.1)
      obtain ⟨l', q1, q2⟩ := set_perm (aset z p y) ei
      have pl : l'.Perm l := List.Perm.cons_inv (q1.symm.trans p1)
      have es : aset (.nd k w a dx xs) (i :: p) y = .nd k w a dx (xs.set i (aset z p y)) := by rw [aset, ei]
      have ev : (xs.set i (aset z p y)).map val = xs.map val := by
        rw [List.map_set, i6]
        exact set_same (by rw [List.getElem?_map, ei]; rfl)
      rw [es]
      refine ⟨?_, ?_, ?_, ?_, ⟨by rw [ev]; exact h1, ?_, fun q => ?_⟩, rfl⟩
      · rw [own]
        refine (List.perm_append_comm).trans (((ownL_perm p1).append_right _).trans ?_)
        rw [ownL]
        refine ((i1.append_right _).append_right _).trans ?_
        simp [List.append_assoc]
      · rw [frz]
        refine (List.perm_append_comm).trans (((frzL_perm p1).append_right _).trans ?_)
        rw [frzL]
        refine ((i2.append_right _).append_right _).trans ?_
        simp [List.append_assoc]
      · rw [own]
        refine (List.perm_append_comm).trans (((ownL_perm q2).append_right _).trans ?_)
        rw [ownL]
        refine ((i3.append (ownL_perm pl)).append_right _).trans ?_
        simp [List.append_assoc]
      · rw [frz]
        refine (List.perm_append_comm).trans (((frzL_perm q2).append_right _).trans ?_)
        rw [frzL]
        refine ((i4.append (frzL_perm pl)).append_right _).trans ?_
        simp [List.append_assoc]
      · refine okL_iff.mpr fun u hu => ?_
        rcases List.mem_or_eq_of_mem_set hu with z' | z'
        · exact okL_iff.mp h2 u z'
        · rw [z']; exact i5
      · rcases hc' with hc' | hc'
        · have e0 := h3 q
          have e1 : ownL (z :: l) = [] := List.Perm.eq_nil (e0 ▸ (ownL_perm p1).symm)
          rw [ownL] at e1
          obtain ⟨e2, e3⟩ := List.append_eq_nil_iff.mp e1
          have e4 : own z = [] := e2
          rw [e4] at i1
          have e5 := List.Perm.eq_nil i1.symm
          obtain ⟨_, e6⟩ := List.append_eq_nil_iff.mp e5
          refine List.Perm.eq_nil ((ownL_perm q2).trans ?_)
          rw [ownL]
          refine (i3.append (ownL_perm pl)).trans ?_
          rw [hc', e6, e3]
          exact .refl _
        · rw [hc'.2] at q; cases q
  | _ :: _, .non, _, _, e => by simp [aget] at e
  | _ :: _, .bl _, _, _, e => by simp [aget] at e
  | _ :: _, .int _, _, _, e => by simp [aget] at e
  | _ :: _, .str _, _, _, e => by simp [aget] at e
  | _ :: _, .cst _, _, _, e => by simp [aget] at e
  | _ :: _, .hole _, _, _, e => by simp [aget] at e
theorem W.of_perm {B : Tab} {H H' : Hp} {R R' : List A} (h : W B H R) (ok : OkL B H R') (po : (ownL R').Perm (ownL R)) (pf : (frzL R').Perm (frzL R)) : W B H R' :=
  ⟨ok, po.nodup_iff.mpr h.nd, fun b hb hf => h.ap b (po.mem_iff.mp hb) (pf.mem_iff.mp hf)⟩
/-- a place is taken out of its root -/
theorem W.focus {B : Tab} {H : Hp} {R : List A} {r x : A} {p : List Nat} (h : W B H (r :: R)) (e : aget r p = some x) : W B H (x :: aset r p (.hole (val x)) :: R) ∧ Ok B H x := by
  obtain ⟨C, F, sp⟩ := aset_spec p r x h.head e
  obtain ⟨i1, i2, i3, i4, i5, _⟩ := sp (.hole (val x)) rfl trivial (.inl rfl)
  have hx : Ok B H x := by
    have : ∀ (p : List Nat) (r : A), Ok B H r → aget r p = some x → Ok B H x := by
      intro p
      induction p with
      | nil => intro r hr e; have : r = x := by (cases r <;> exact Option.some.inj e)
               subst this; exact hr
      | cons i p ih =>
        intro r hr e
        cases r with
        | nd k w a dx xs =>
          rw [aget] at e
          cases ei : xs[i]? with
          | none => rw [ei] at e; simp at e
          | some z => rw [ei] at e; exact ih z (okL_iff.mp hr.2.1 z (List.mem_of_getElem? ei)) e
        | _ => simp [aget] at e
    exact this p r h.head e
  refine ⟨h.of_perm (H' := H) ⟨hx, i5, h.drop.ok⟩ ?_ ?_, hx⟩
  · rw [ownL, ownL, ownL, ← List.append_assoc]
    refine List.Perm.append_right _ ((List.Perm.append_left _ ?_).trans i1.symm)
    simpa [own] using i3
  · rw [frzL, frzL, frzL, ← List.append_assoc]
    refine List.Perm.append_right _ ((List.Perm.append_left _ ?_).trans i2.symm)
    simpa [frz] using i4
/-- and put back -/
theorem W.unfocus {B : Tab} {H : Hp} {R : List A} {r x y : A} {p : List Nat} (e : aget r p = some x) (h : W B H (y :: aset r p (.hole (val x)) :: R)) (hv : val y = val x) (hc : own y = [] ∨ (er r).pown p = true) : W B H (aset r p y :: R) ∧ val (aset r p y) = val r := by
  -- the way, in the new heap
  have key : ∀ (p : List Nat) (r : A), aget r p = some x → Ok B H (aset r p (.hole (val x))) → Ok B H y → (own y = [] ∨ (er r).pown p = true) → Ok B H (aset r p y) ∧ val (aset r p y) = val r ∧
      ∃ C F : List Addr, (own (aset r p (.hole (val x)))).Perm C ∧ (frz (aset r p (.hole (val x)))).Perm F ∧ (own (aset r p y)).Perm (own y ++ C) ∧ (frz (aset r p y)).Perm (frz y ++ F) := by
    intro p
    induction p with
    | nil =>
      intro r e _ hy _
      have e' : r = x := by (cases r <;> exact Option.some.inj e)
      subst e'
      have e2 : ∀ z, aset r [] z = z := fun z => by cases r <;> rfl
      rw [e2, e2]
      exact ⟨hy, hv, [], [], by simp [own], by simp [frz], by simp, by simp⟩
    | cons i p ih =>
      intro r e ho hy hc
      cases r with
      | nd k w a dx xs =>
        rw [aget] at e
        cases ei : xs[i]? with
        | none => rw [ei] at e; simp at e
        | some z =>
          rw [ei] at e
          have es : ∀ u, aset (.nd k w a dx xs) (i :: p) u = .nd k w a dx (xs.set i (aset z p u)) := fun u => by rw [aset, ei]
          rw [es] at ho
          obtain ⟨o1, o2, o3⟩ := ho
          obtain ⟨hlt, _⟩ := List.getElem?_eq_some_iff.mp ei
          have hz := okL_iff.mp o2 (aset z p (.hole (val x))) (List.mem_of_getElem? (i := i) (by rw [List.getElem?_set_self hlt]))
          have hc' : own y = [] ∨ (er z).pown p = true ∧ k.m = true := by
            rcases hc with hc | hc
            · exact .inl hc
            · rw [er, T.pown, erL_get, ei] at hc
              simp only [Option.map_some, Bool.and_eq_true] at hc
              exact .inr ⟨hc.2, hc.1⟩
          obtain ⟨j1, j2, C, F, j3, j4, j5, j6⟩ := ih z e hz hy (hc'.imp id fun q => q.1)
          obtain ⟨la, qa, qa2⟩ := set_perm (aset z p (.hole (val x))) ei
          obtain ⟨lb, qb, qb2⟩ := set_perm (aset z p y) ei
          have pl : lb.Perm la := List.Perm.cons_inv (qb.symm.trans qa)
          have hv1 : val (aset z p (.hole (val x))) = val z := by
            clear ih j1 j3 j4 j5 j6 hz
            cases p with
            | nil => cases z <;> (simp only [aget, Option.bind_some, Option.some.injEq] at e; subst e; rfl)
            | cons i2 p2 =>
              cases z with
              | nd k2 w2 a2 d2 xs2 => rw [aset]; split <;> rfl
              | _ => rfl
          rw [es, es]
          refine ⟨⟨?_, ?_, fun q => ?_⟩, rfl, C ++ (ownL la ++ ownN k w a), F ++ (frzL la ++ frzN k w a dx), ?_, ?_, ?_, ?_⟩
          · rw [List.map_set, j2]
            rw [List.map_set, hv1] at o1
            exact o1
          · refine okL_iff.mpr fun u hu => ?_
            rcases List.mem_cons.mp ((qb2.mem_iff).mp hu) with q | q
            · rw [q]; exact j1
            · exact okL_iff.mp o2 u (qa2.mem_iff.mpr (List.mem_cons_of_mem _ (pl.mem_iff.mp q)))
          · rcases hc' with hc' | hc'
            · have e0 := o3 q
              have e1 : ownL (aset z p (.hole (val x)) :: la) = [] := List.Perm.eq_nil (e0 ▸ (ownL_perm qa2).symm)
              rw [ownL] at e1
              obtain ⟨e2, e3⟩ := List.append_eq_nil_iff.mp e1
              rw [e2] at j3
              have e6 := List.Perm.eq_nil j3.symm
              refine List.Perm.eq_nil ((ownL_perm qb2).trans ?_)
              rw [ownL]
              refine (j5.append (ownL_perm pl)).trans ?_
              rw [hc', e6, e3]
              exact .refl _
            · rw [hc'.2] at q; cases q
          · rw [own]
            refine (List.perm_append_comm).trans (((ownL_perm qa2).append_right _).trans ?_)
            rw [ownL]
            refine ((j3.append_right _).append_right _).trans ?_
            simp [List.append_assoc]
          · rw [frz]
            refine (List.perm_append_comm).trans (((frzL_perm qa2).append_right _).trans ?_)
            rw [frzL]
            refine ((j4.append_right _).append_right _).trans ?_
            simp [List.append_assoc]
          · rw [own]
            refine (List.perm_append_comm).trans (((ownL_perm qb2).append_right _).trans ?_)
            rw [ownL]
            refine ((j5.append (ownL_perm pl)).append_right _).trans ?_
            simp [List.append_assoc]
          · rw [frz]
            refine (List.perm_append_comm).trans (((frzL_perm qb2).append_right _).trans ?_)
            rw [frzL]
            refine ((j6.append (frzL_perm pl)).append_right _).trans ?_
            simp [List.append_assoc]
      | _ => simp [aget] at e
  obtain ⟨k1, k2, C, F, k3, k4, k5, k6⟩ := key p r e h.drop.head h.head hc
  refine ⟨h.of_perm (H' := H) ⟨k1, h.drop.drop.ok⟩ ?_ ?_, k2⟩
  · rw [ownL, ownL, ownL, ← List.append_assoc]
    exact List.Perm.append_right _ (k5.trans (List.Perm.append_left _ k3.symm))
  · rw [frzL, frzL, frzL, ← List.append_assoc]
    exact List.Perm.append_right _ (k6.trans (List.Perm.append_left _ k4.symm))
end Tr
end

section
set_option Elab.async false
set_option linter.all false
set_option autoImplicit false
set_option maxRecDepth 100000
/-! What an expression does, on trees; HandS' judgements met by it. -/
namespace Tr
open PySem PySem.Spec PyProof.Rows L2

/-- a place is read: its content frozen, once more -/
theorem W.read {B : Tab} {H : Hp} {R : List A} {r x : A} {p : List Nat} (h : W B H (r :: R)) (e : aget r p = some x) : W B H (Tr.fz x :: aset r p (Tr.fz x) :: R) ∧ val (aset r p (Tr.fz x)) = val r := by
  obtain ⟨h1, ox⟩ := h.focus e
  have h2 := h1.fz2
  have h3 : W B H (Tr.fz x :: aset r p (.hole (val x)) :: Tr.fz x :: R) := h2.perm (by
    refine List.Perm.cons _ ?_
    exact List.Perm.swap _ _ _)
  obtain ⟨h4, h5⟩ := W.unfocus e h3 (val_fz x) (.inl h1.own_fz)
  exact ⟨h4.swap, h5⟩

abbrev Env := List (Option T)
abbrev AEnv := List (Option A)
def erE (ρ : AEnv) : Env := ρ.map (Option.map er)
def slots (ρ : AEnv) : List A := ρ.filterMap id
structure Mat (ρ : AEnv) (σ : L2.St) : Prop where
  len : ρ.length = σ.length
  at_ : ∀ (i : Nat) (r : A), ρ[i]? = some (some r) → σ[i]? = some (some (val r))
theorem erE_get (ρ : AEnv) (i : Nat) : (erE ρ)[i]? = (ρ[i]?).map (Option.map er) := by unfold erE; rw [List.getElem?_map]
theorem erE_some {ρ : AEnv} {i : Nat} {t : T} (h : (erE ρ)[i]? = some (some t)) : ∃ r, ρ[i]? = some (some r) ∧ er r = t := by
  rw [erE_get] at h
  cases e : ρ[i]? with
  | none => rw [e] at h; simp at h
  | some x =>
    rw [e] at h
    cases x with
    | none => simp at h
    | some r => exact ⟨r, rfl, by simpa using h⟩
theorem erE_set (ρ : AEnv) (i : Nat) (x : Option A) : erE (ρ.set i x) = (erE ρ).set i (x.map er) := by unfold erE; rw [List.map_set]
theorem slots_take : ∀ {ρ : AEnv} {i : Nat} {r : A}, ρ[i]? = some (some r) → (slots ρ).Perm (r :: slots (ρ.set i none))
  | [], _, _, h => by simp at h
  | x :: ρ, 0, r, h => by simp at h; subst h; exact .refl _
  | x :: ρ, i + 1, r, h => by
    have ih := slots_take (ρ := ρ) (i := i) (r := r) (by simpa using h)
    cases x with
    | none => exact ih
    | some y => exact (ih.cons y).trans (.swap _ _ _)
theorem slots_put : ∀ {ρ : AEnv} {i : Nat} {r : A}, i < ρ.length → (slots (ρ.set i (some r))).Perm (r :: slots (ρ.set i none))
  | [], _, _, h => by simp at h
  | x :: ρ, 0, r, h => .refl _
  | x :: ρ, i + 1, r, h => by
    have ih := slots_put (ρ := ρ) (i := i) (r := r) (by simpa using h)
    cases x with
    | none => exact ih
    | some y => exact (ih.cons y).trans (.swap _ _ _)
theorem slots_none : ∀ {ρ : AEnv} {i : Nat}, ∃ l, (slots ρ).Perm (l ++ slots (ρ.set i none))
  | [], _ => ⟨[], .refl _⟩
  | x :: ρ, 0 => by
    cases x with
    | none => exact ⟨[], .refl _⟩
    | some y => exact ⟨[y], .refl _⟩
  | x :: ρ, i + 1 => by
    obtain ⟨l, ih⟩ := slots_none (ρ := ρ) (i := i)
    cases x with
    | none => exact ⟨l, ih⟩
    | some y => exact ⟨l, (ih.cons y).trans List.perm_middle.symm⟩
section
variable {B : Tab} {H : Hp} {ρ : AEnv} {R : List A} {i : Nat} {r : A}
theorem W.take (h : W B H (slots ρ ++ R)) (e : ρ[i]? = some (some r)) : W B H (r :: (slots (ρ.set i none) ++ R)) :=
  h.perm ((slots_take e).symm.append_right R)
theorem W.put (h : W B H (r :: (slots (ρ.set i none) ++ R))) (e : i < ρ.length) : W B H (slots (ρ.set i (some r)) ++ R) :=
  h.perm ((slots_put e).append_right R)
theorem W.unset (h : W B H (slots ρ ++ R)) : W B H (slots (ρ.set i none) ++ R) := by
  obtain ⟨l, p⟩ := slots_none (ρ := ρ) (i := i)
  have h1 : W B H (l ++ (slots (ρ.set i none) ++ R)) := h.perm (by rw [← List.append_assoc]; exact p.symm.append_right R)
  exact h1.right
theorem W.store (h : W B H (r :: (slots ρ ++ R))) (e : i < ρ.length) : W B H (slots (ρ.set i (some r)) ++ R) := by
  have h1 : W B H (slots ρ ++ (r :: R)) := h.toMid
  have h2 := h1.unset (i := i)
  exact W.put h2.mid e
end
theorem Mat.set {ρ : AEnv} {σ : L2.St} (m : Mat ρ σ) {i : Nat} {r : A} (hv : i < ρ.length → σ[i]? = some (some (val r))) : Mat (ρ.set i (some r)) σ := by
  refine ⟨by rw [List.length_set]; exact m.len, fun j s e => ?_⟩
  by_cases hj : i = j
  · subst hj
    by_cases hlt : i < ρ.length
    · rw [List.getElem?_set_self hlt] at e
      cases e
      exact hv hlt
    · rw [List.getElem?_eq_none (by rw [List.length_set]; omega)] at e
      cases e
  · rw [List.getElem?_set_ne hj] at e
    exact m.at_ j s e
theorem Mat.unset {ρ : AEnv} {σ : L2.St} (m : Mat ρ σ) {i : Nat} : Mat (ρ.set i none) σ := by
  refine ⟨by rw [List.length_set]; exact m.len, fun j s e => ?_⟩
  by_cases hj : i = j
  · subst hj
    by_cases hlt : i < ρ.length
    · rw [List.getElem?_set_self hlt] at e
      cases e
    · rw [List.getElem?_eq_none (by rw [List.length_set]; omega)] at e
      cases e
  · rw [List.getElem?_set_ne hj] at e
    exact m.at_ j s e
theorem Mat.store {ρ : AEnv} {σ : L2.St} (m : Mat ρ σ) {i : Nat} {r : A} : Mat (ρ.set i (some r)) (σ.set i (some (val r))) := by
  refine ⟨by rw [List.length_set, List.length_set]; exact m.len, fun j s e => ?_⟩
  by_cases hj : i = j
  · subst hj
    by_cases hlt : i < ρ.length
    · rw [List.getElem?_set_self hlt] at e
      cases e
      rw [List.getElem?_set_self (by rw [← m.len]; exact hlt)]
    · rw [List.getElem?_eq_none (by rw [List.length_set]; omega)] at e
      cases e
  · rw [List.getElem?_set_ne hj] at e
    rw [List.getElem?_set_ne hj]
    exact m.at_ j s e

/-! ### outcomes -/
/-- an exception: its class, its fields -/
structure Ex where
  c : Nat
  fs : List T
/-- what an expression comes to -/
inductive Rs (α : Type) where
  | ok (a : α) (ρ : Env) | exc (e : Ex) (ρ : Env) | bad
abbrev M (α : Type) := Env → Rs α
@[reducible] def M.ret {α : Type} (a : α) : M α := fun ρ => .ok a ρ
def Rs.bind {α β : Type} (x : Rs α) (k : α → Env → Rs β) : Rs β := match x with
  | .ok a ρ => k a ρ
  | .exc e ρ => .exc e ρ
  | .bad => .bad
def M.bind {α β : Type} (x : M α) (k : α → M β) : M β := fun ρ => (x ρ).bind k
def lift {α : Type} (x : Option α) : M α := fun ρ => match x with
  | some a => .ok a ρ
  | none => .bad

/-- what a def's text gives besides its frame: the classes' addresses, the exceptions' fields, what is wanted of an exception, the slots that keep their objects -/
structure Cu where
  ct : Nat → Addr
  ef : Nat → List Str
  X : WX
  pr : Nat → Bool
abbrev tab (X : Cx) (c : Cu) : Tab := ⟨X.K, c.ct, c.ef⟩
def atomV : T → Option V
  | .non => some .non
  | .bl b => some (.bl b)
  | .int i => some (.int i)
  | .str x => some (.str x)
  | _ => none
def ExOk (B : Tab) (H : Hp) (e : Ex) (cls : Value) (d : Option Addr) : Prop :=
  cls = .ref (B.ct e.c) ∧ ((e.fs = [] ∧ d = none) ∨ (e.fs ≠ [] ∧ ∃ dd vs, d = some dd ∧ e.fs.mapM atomV = some vs ∧ (B.ef e.c).length = vs.length ∧ H dd = some (.xd ((B.ef e.c).zip vs))))
/-- the state: the slots' trees and further roots -/
def SI (X : Cx) (c : Cu) (σ : L2.St) (H : Hp) (ρ : Env) (R : List A) : Prop := ∃ ρA : AEnv, erE ρA = ρ ∧ Mat ρA σ ∧ W (tab X c) H (slots ρA ++ R)
section
variable {X : Cx} {c : Cu} {σ : L2.St} {H H' : Hp} {ρ : Env} {R R' : List A} {x : A}
theorem SI.map (h : SI X c σ H ρ R) (f : ∀ S, W (tab X c) H (S ++ R) → W (tab X c) H' (S ++ R')) : SI X c σ H' ρ R' :=
  let ⟨ρA, e, m, w⟩ := h
  ⟨ρA, e, m, f _ w⟩
/-- only the further roots matter -/
theorem SI.imp (h : SI X c σ H ρ R) (f : ∀ S, W (tab X c) H (R ++ S) → W (tab X c) H' (R' ++ S)) : SI X c σ H' ρ R' :=
  h.map fun S w => (f S (w.perm List.perm_append_comm)).perm List.perm_append_comm
theorem SI.drop (h : SI X c σ H ρ (x :: R)) : SI X c σ H ρ R := h.imp fun S w => W.drop w
theorem SI.dropL {xs : List A} (h : SI X c σ H ρ (xs ++ R)) : SI X c σ H ρ R := h.imp fun S w => W.right (xs := xs) (by rw [← List.append_assoc]; exact w)
theorem SI.perm (h : SI X c σ H ρ R) (p : R'.Perm R) : SI X c σ H ρ R' := h.map fun S w => w.perm (p.append_left S)
theorem SI.len (h : SI X c σ H ρ R) : ρ.length = σ.length := let ⟨ρA, e, m, _⟩ := h; by rw [← e, erE, List.length_map]; exact m.len
end

/-- what is wanted of an outcome -/
def Post {α : Type} (X : Cx) (c : Cu) (σ : L2.St) (R : List A) (K : α → Env → Prop) : Rs α → Prop
  | .ok a ρ => K a ρ
  | .exc e ρ => ∀ H cls d, SI X c σ H ρ R → ExOk (tab X c) H e cls d → c.X cls d σ H
  | .bad => False
theorem Post.bind {α β : Type} {X : Cx} {c : Cu} {σ : L2.St} {R : List A} {K : β → Env → Prop} {x : Rs α} {k : α → Env → Rs β} : Post X c σ R K (x.bind k) ↔ Post X c σ R (fun a ρ => Post X c σ R K (k a ρ)) x := by
  cases x <;> exact Iff.rfl
theorem Post.mono {α : Type} {X : Cx} {c : Cu} {σ : L2.St} {R R' : List A} {K K' : α → Env → Prop} {x : Rs α} (h : Post X c σ R K x) (hR : ∀ H ρ, SI X c σ H ρ R' → SI X c σ H ρ R) (hK : ∀ a ρ, K a ρ → K' a ρ) : Post X c σ R' K' x := by
  cases x with
  | ok a ρ => exact hK a ρ h
  | exc e ρ => exact fun H cls d I E => h H cls d (hR H ρ I) E
  | bad => exact h
theorem Post.lift {α : Type} {X : Cx} {c : Cu} {σ : L2.St} {R : List A} {K : α → Env → Prop} {x : Option α} {ρ : Env} (h : Post X c σ R K (Tr.lift x ρ)) : ∃ a, x = some a ∧ K a ρ := by
  cases x with
  | some a => exact ⟨a, rfl, h⟩
  | none => exact h.elim

def KE (X : Cx) (c : Cu) (σ : L2.St) (R : List A) (Q : VK) : T → Env → Prop := fun t ρ => ∀ r H, er r = t → SI X c σ H ρ (r :: R) → Q (val r) H
def KL (X : Cx) (c : Cu) (σ : L2.St) (R : List A) (Q : List V → Hp → Prop) : List T → Env → Prop := fun ts ρ => ∀ rs H, erL rs = ts → SI X c σ H ρ (rs ++ R) → Q (rs.map val) H
def KT (X : Cx) (c : Cu) (σ : L2.St) (R : List A) (Q : Bool → Hp → Prop) : Bool → Env → Prop := fun b ρ => ∀ H, SI X c σ H ρ R → Q b H
def KB (X : Cx) (c : Cu) (σ : L2.St) (R : List A) (Q : VK) : Nat × List Nat → Env → Prop := fun ip ρ => ∀ ρA H, erE ρA = ρ → Mat ρA σ → W (tab X c) H (slots ρA ++ R) → ∃ root leaf, ρA[ip.1]? = some (some root) ∧ aget root ip.2 = some leaf ∧ Q (val leaf) H
def SEr (X : Cx) (c : Cu) (f : M T) : TE := fun σ H Q => ∃ ρ R, SI X c σ H ρ R ∧ Post X c σ R (KE X c σ R Q) (f ρ)
def SLr (X : Cx) (c : Cu) (f : M (List T)) : TA := fun σ H Q => ∃ ρ R, SI X c σ H ρ R ∧ Post X c σ R (KL X c σ R Q) (f ρ)
def STr (X : Cx) (c : Cu) (f : M Bool) : TT := fun σ H Q => ∃ ρ R, SI X c σ H ρ R ∧ Post X c σ R (KT X c σ R Q) (f ρ)
def SBr (X : Cx) (c : Cu) (f : M (Nat × List Nat)) : TE := fun σ H Q => ∃ ρ R, SI X c σ H ρ R ∧ Post X c σ R (KB X c σ R Q) (f ρ)
/-- the expression does f; the arguments; the test; the place -/
def SE (X : Cx) (c : Cu) (e : Expr) (f : M T) : Prop := PE X e (SEr X c f)
def SL (X : Cx) (c : Cu) (es : List Expr) (f : M (List T)) : Prop := PA X es (SLr X c f)
def SC (X : Cx) (c : Cu) (e : Expr) (f : M Bool) : Prop := PT X e (STr X c f)
def SW (X : Cx) (c : Cu) (e : Expr) (f : M Bool) : Prop := PW X e (STr X c f)
def SB (X : Cx) (c : Cu) (e : Expr) (f : M (Nat × List Nat)) : Prop := PE X e (SBr X c f)
theorem pe_imp {X : Cx} {e : Expr} {t t' : TE} (h : PE X e t) (i : ∀ σ H Q, t' σ H Q → t σ H Q) : PE X e t' := ⟨fun pins s σ H Q I q => h.run pins s σ H Q I (i σ H Q q)⟩
theorem pa_imp {X : Cx} {e : List Expr} {t t' : TA} (h : PA X e t) (i : ∀ σ H Q, t' σ H Q → t σ H Q) : PA X e t' := ⟨fun pos pins s σ H Q I q => h.run pos pins s σ H Q I (i σ H Q q)⟩
theorem pt_imp {X : Cx} {e : Expr} {t t' : TT} (h : PT X e t) (i : ∀ σ H Q, t' σ H Q → t σ H Q) : PT X e t' := ⟨fun pins s σ H Q I q => h.run pins s σ H Q I (i σ H Q q)⟩
theorem pw_imp {X : Cx} {e : Expr} {t t' : TT} (h : PW X e t) (i : ∀ σ H Q, t' σ H Q → t σ H Q) : PW X e t' := ⟨fun wh pins s σ H Q I q => h.run wh pins s σ H Q I (i σ H Q q)⟩
theorem ps_imp {X : Cx} {e : Stmt} {t t' : TS} (h : PS X e t) (i : ∀ D σ H, t' D σ H → t D σ H) : PS X e t' := ⟨fun pins s σ H D I q => h.run pins s σ H D I (i D σ H q)⟩
theorem pss_imp {X : Cx} {e : List Stmt} {t t' : TS} (h : PSs X e t) (i : ∀ D σ H, t' D σ H → t D σ H) : PSs X e t' := ⟨fun pins s σ H D I q => h.run pins s σ H D I (i D σ H q)⟩

/-! ### one step after another -/
section
variable {X : Cx} {c : Cu} {σ : L2.St} {H : Hp} {ρ : Env} {R : List A}
/-- an expression, then what follows -/
theorem se_then {β : Type} {f : M T} {k : T → M β} {K : β → Env → Prop} {Q : VK} (I : SI X c σ H ρ R) (h : Post X c σ R K ((f.bind k) ρ)) (hk : ∀ r H' ρ', SI X c σ H' ρ' (r :: R) → Post X c σ R K (k (er r) ρ') → Q (val r) H') : SEr X c f σ H Q :=
  ⟨ρ, R, I, (Post.bind.mp h).mono (fun _ _ i => i) fun t ρ' q r H' e I' => hk r H' ρ' I' (by rw [e]; exact q)⟩
theorem sl_then {β : Type} {f : M (List T)} {k : List T → M β} {K : β → Env → Prop} {Q : List V → Hp → Prop} (I : SI X c σ H ρ R) (h : Post X c σ R K ((f.bind k) ρ)) (hk : ∀ rs H' ρ', SI X c σ H' ρ' (rs ++ R) → Post X c σ R K (k (erL rs) ρ') → Q (rs.map val) H') : SLr X c f σ H Q :=
  ⟨ρ, R, I, (Post.bind.mp h).mono (fun _ _ i => i) fun t ρ' q rs H' e I' => hk rs H' ρ' I' (by rw [e]; exact q)⟩
theorem sc_then {β : Type} {f : M Bool} {k : Bool → M β} {K : β → Env → Prop} {Q : Bool → Hp → Prop} (I : SI X c σ H ρ R) (h : Post X c σ R K ((f.bind k) ρ)) (hk : ∀ b H' ρ', SI X c σ H' ρ' R → Post X c σ R K (k b ρ') → Q b H') : STr X c f σ H Q :=
  ⟨ρ, R, I, (Post.bind.mp h).mono (fun _ _ i => i) fun t ρ' q H' I' => hk t H' ρ' I' q⟩
theorem sb_then {β : Type} {f : M (Nat × List Nat)} {k : Nat × List Nat → M β} {K : β → Env → Prop} {Q : VK} (I : SI X c σ H ρ R) (h : Post X c σ R K ((f.bind k) ρ))
    (hk : ∀ ip ρA H', Mat ρA σ → W (tab X c) H' (slots ρA ++ R) → Post X c σ R K (k ip (erE ρA)) → ∃ root leaf, ρA[ip.1]? = some (some root) ∧ aget root ip.2 = some leaf ∧ Q (val leaf) H') : SBr X c f σ H Q :=
  ⟨ρ, R, I, (Post.bind.mp h).mono (fun _ _ i => i) fun ip ρ' q ρA H' e m w => hk ip ρA H' m w (by rw [e]; exact q)⟩
/-- more roots -/
theorem Post.more {β : Type} {K : β → Env → Prop} {x : Rs β} {r : A} (h : Post X c σ R K x) : Post X c σ (r :: R) K x := h.mono (fun _ _ i => i.drop) fun _ _ q => q
theorem Post.moreL {β : Type} {K : β → Env → Prop} {x : Rs β} {rs : List A} (h : Post X c σ R K x) : Post X c σ (rs ++ R) K x := h.mono (fun _ _ i => i.dropL) fun _ _ q => q
end

/-! ### operations by values -/
/-- r, by values, gives what g gives on trees -/
def Sim2 (B : Tab) (r : R2) (g : T → T → Option T) : Prop := ∀ (H : Hp) (x y : A) (R : List A) (t : T) (Q : VK), W B H (y :: x :: R) → g (er x) (er y) = some t → (∀ z H', er z = t → W B H' (z :: R) → Q (val z) H') → r (val x) (val y) H Q
def Sim1 (B : Tab) (r : V → Hp → VK → Prop) (g : T → Option T) : Prop := ∀ (H : Hp) (x : A) (R : List A) (t : T) (Q : VK), W B H (x :: R) → g (er x) = some t → (∀ z H', er z = t → W B H' (z :: R) → Q (val z) H') → r (val x) H Q
def SimL (B : Tab) (r : List V → Hp → VK → Prop) (g : List T → Option T) : Prop := ∀ (H : Hp) (xs : List A) (R : List A) (t : T) (Q : VK), W B H (xs ++ R) → g (erL xs) = some t → (∀ z H', er z = t → W B H' (z :: R) → Q (val z) H') → r (xs.map val) H Q
section
variable {X : Cx} {c : Cu} {e a b : Expr} {es : List Expr} {pos : Pos} {f fa fb : M T} {fl : M (List T)} {g : T → T → Option T}
/-- the end of an operation -/
theorem SI.end_ {σ : L2.St} {H : Hp} {ρ : Env} {R R' : List A} {t : T} {Q : VK} (I : SI X c σ H ρ (R' ++ R)) (hq : KE X c σ R Q t ρ) (P : Prop)
    (h : ∀ S, W (tab X c) H (R' ++ (R ++ S)) → (∀ z H', er z = t → W (tab X c) H' (z :: (R ++ S)) → Q (val z) H') → P) : P := by
  obtain ⟨ρA, e, m, w⟩ := I
  have w1 : W (tab X c) H (R' ++ (R ++ slots ρA)) := w.perm (by rw [← List.append_assoc]; exact List.perm_append_comm)
  refine h _ w1 fun z H' ez w2 => hq z H' ez ⟨ρA, e, m, ?_⟩
  exact w2.perm (List.perm_append_comm (l₁ := slots ρA) (l₂ := z :: R))
def f2 (g : T → T → Option T) (fa fb : M T) : M T := fa.bind fun x => fb.bind fun y => lift (g x y)
theorem f2_ok {r : R2} {σ : L2.St} {H : Hp} {Q : VK} (S : Sim2 (tab X c) r g) (h : SEr X c (f2 g fa fb) σ H Q) : tOp r (SEr X c fa) (SEr X c fb) σ H Q := by
  obtain ⟨ρ, R, I, P⟩ := h
  refine se_then I P fun x H1 ρ1 I1 P1 => ?_
  refine se_then (R := x :: R) I1 P1.more fun y H2 ρ2 I2 P2 => ?_
  obtain ⟨t, e, q⟩ := P2.lift
  exact SI.end_ (R' := [y, x]) I2 q _ fun S' w hz => S H2 x y (R ++ S') t Q w e hz
theorem se_op {op : Operator} {r : R2} (ho : OpR X (binaryOp op) r) (S : Sim2 (tab X c) r g) (ha : SE X c a fa) (hb : SE X c b fb) : SE X c (.BinOp a op b pos) (f2 g fa fb) :=
  pe_imp (pe_op ho ha hb) fun _ _ _ h => f2_ok S h
theorem se_cmp {op : CmpOp} {r : R2} (ho : OpR X (compareOp op) r) (S : Sim2 (tab X c) r g) (ha : SE X c a fa) (hb : SE X c b fb) (hm : behindInMarks op b = false) : SE X c (.Compare a [op] [b] pos) (f2 g fa fb) :=
  pe_imp (pe_cmpR ho ha hb hm) fun _ _ _ h => f2_ok S h
/-- a value as a test -/
def truthB : T → Option Bool
  | .bl b => some b
  | _ => none
def fTest (f : M T) : M Bool := f.bind fun t => lift (truthB t)
theorem fTest_ok {σ : L2.St} {H : Hp} {Q : Bool → Hp → Prop} (h : STr X c (fTest f) σ H Q) : SEr X c f σ H (fun x H' => ∃ k, x = .bl k ∧ Q k H') := by
  obtain ⟨ρ, R, I, P⟩ := h
  refine se_then I P fun x H1 ρ1 I1 P1 => ?_
  obtain ⟨t, e, q⟩ := P1.lift
  cases x with
  | bl k =>
    have e' : k = t := Option.some.inj e
    subst e'
    exact ⟨k, rfl, q H1 I1.drop⟩
  | _ => cases e
theorem sc_cmp {op : CmpOp} {r : R2} (ho : OpR X (compareOp op) r) (S : Sim2 (tab X c) r g) (ha : SE X c a fa) (hb : SE X c b fb) (hm : behindInMarks op b = false) : SC X c (.Compare a [op] [b] pos) (fTest (f2 g fa fb)) :=
  pt_imp (pt_cmpR ho ha hb hm) fun _ _ _ h => f2_ok S (fTest_ok h)
theorem sc_val (h : SE X c e f) (he : ∀ whole, isTrue e X.env whole = (do let v ← whole; standAt e.pos; holding [v] (truthy v)) := by intro _; rfl) : SC X c e (fTest f) :=
  pt_imp (pt_val h he) fun _ _ _ h => fTest_ok h
def f1 (g : T → Option T) (fa : M T) : M T := fa.bind fun x => lift (g x)
theorem f1_ok {r : V → Hp → VK → Prop} {g : T → Option T} {σ : L2.St} {H : Hp} {Q : VK} (S : Sim1 (tab X c) r g) (h : SEr X c (f1 g fa) σ H Q) : tUn r (SEr X c fa) σ H Q := by
  obtain ⟨ρ, R, I, P⟩ := h
  refine se_then I P fun x H1 ρ1 I1 P1 => ?_
  obtain ⟨t, e, q⟩ := P1.lift
  exact SI.end_ (R' := [x]) I1 q _ fun S' w hz => S H1 x (R ++ S') t Q w e hz
theorem se_un {op : UnaryOp} {r : V → Hp → VK → Prop} {g : T → Option T} (ho : UnR X (unaryOp op) r) (S : Sim1 (tab X c) r g) (ha : SE X c a fa) : SE X c (.UnaryOp op a pos) (f1 g fa) :=
  pe_imp (pe_un ho ha) fun _ _ _ h => f1_ok S h
/-! ### arguments -/
def fNil : M (List T) := M.ret []
def fCons (f : M T) (fl : M (List T)) : M (List T) := f.bind fun x => fl.bind fun xs => M.ret (x :: xs)
theorem sl_nil : SL X c [] fNil := pa_imp pa_nil fun σ H Q h => by
  obtain ⟨ρ, R, I, P⟩ := h
  exact P [] H rfl I
theorem sl_cons (ha : SE X c e f) (hr : SL X c es fl) (hs : starEach (e :: es) X.env = (false, eval e X.env) :: starEach es X.env := by rfl) : SL X c (e :: es) (fCons f fl) := pa_imp (pa_cons ha hr hs) fun σ H Q h => by
  obtain ⟨ρ, R, I, P⟩ := h
  refine se_then I P fun x H1 ρ1 I1 P1 => ?_
  refine sl_then (R := x :: R) I1 P1.more fun xs H2 ρ2 I2 P2 => ?_
  exact P2 (x :: xs) H2 rfl (I2.perm List.perm_middle.symm)
def fCallL (g : List T → Option T) (fl : M (List T)) : M T := fl.bind fun xs => lift (g xs)
theorem fCallL_ok {r : List V → Hp → VK → Prop} {g : List T → Option T} {σ : L2.St} {H : Hp} {Q : VK} (S : SimL (tab X c) r g) (h : SEr X c (fCallL g fl) σ H Q) : SLr X c fl σ H (fun vs H1 => r vs H1 Q) := by
  obtain ⟨ρ, R, I, P⟩ := h
  refine sl_then I P fun xs H1 ρ1 I1 P1 => ?_
  obtain ⟨t, e, q⟩ := P1.lift
  exact SI.end_ (R' := xs) I1 q _ fun S' w hz => S H1 xs (R ++ S') t Q w e hz
theorem se_callB {x : Str} {p : Pos} {id : String} {r : List V → Hp → VK → Prop} {g : List T → Option T} (hc : CallR X (.builtin id) r) (S : SimL (tab X c) r g) (hg : Gl X x) (hm : X.mg x = none) (hv : bootBuiltins x = some (.builtin id)) (ha : SL X c (e :: es) fl)
    (hn : x ≠ "__name__" := by decide) (hdb : (x == ("__debug__" : Str)) = false := by decide)
    (he : starEach (e :: es) X.env = (false, eval e X.env) :: starEach es X.env := by rfl) (hpl : (backTo pos (starEach es X.env)).any (·.1) = false := by rfl) : SE X c (.Call (.Name x p) (e :: es) [] pos) (fCallL g fl) :=
  pe_imp (pe_callB hc hg hm hv ha hn hdb he hpl) fun _ _ _ h => fCallL_ok S h
theorem se_callTy {x : Str} {p : Pos} {T' : String} {r : List V → Hp → VK → Prop} {g : List T → Option T} (hc : CallR X (.type T') r) (S : SimL (tab X c) r g) (hg : Gl X x) (hm : X.mg x = none) (hv : bootBuiltins x = some (.type T')) (ha : SL X c (e :: es) fl)
    (hn : x ≠ "__name__" := by decide) (hdb : (x == ("__debug__" : Str)) = false := by decide)
    (he : starEach (e :: es) X.env = (false, eval e X.env) :: starEach es X.env := by rfl) (hpl : (backTo pos (starEach es X.env)).any (·.1) = false := by rfl) : SE X c (.Call (.Name x p) (e :: es) [] pos) (fCallL g fl) :=
  pe_imp (pe_callTy hc hg hm hv ha hn hdb he hpl) fun _ _ _ h => fCallL_ok S h
/-- displays -/
def gTupL (xs : List T) : Option T := if xs.length ≤ sizeLine then some (.nd .tup (T.fzL xs)) else none
def gLstL (xs : List T) : Option T := if xs.length ≤ sizeLine then some (.nd (.lst true) xs) else none
theorem W.fzL {B : Tab} {H : Hp} {R : List A} : ∀ {xs : List A}, W B H (xs ++ R) → W B H (Tr.fzL xs ++ R)
  | [], h => h
  | x :: xs, h => by
    have h1 : W B H (Tr.fz x :: (xs ++ R)) := W.fz h
    have h2 : W B H (xs ++ (Tr.fz x :: R)) := h1.toMid
    exact (W.fzL h2).mid
theorem fzL_own {B : Tab} {H : Hp} {R xs : List A} (h : W B H (xs ++ R)) : ownL (Tr.fzL xs) = [] := (fzL_ok (okL_append.mp h.ok).1).2.1
theorem len_erL (xs : List A) : (erL xs).length = xs.length := by rw [erL_map, List.length_map]
theorem se_tup {x1} (h : SL X c es fl) : SE X c (.Tuple es x1 pos) (fCallL gTupL fl) := pe_imp (pe_tup h) fun σ H Q h => by
  refine fCallL_ok (r := fun xs H1 Q => xs.length ≤ sizeLine ∧ ∀ p, H1 p = none → Q (.ref p) (upd H1 p (.tup xs))) (fun H1 xs R t Q w e hz => ?_) h
  unfold gTupL at e
  split at e
  · rename_i hl
    cases e
    rw [len_erL] at hl
    refine ⟨by rw [List.length_map]; exact hl, fun p hp => ?_⟩
    have w1 := W.fzL w
    have hn : NodeOk (tab X c) (upd H1 p (.tup (xs.map val))) .tup false p 0 ((Tr.fzL xs).map val) := by
      show upd H1 p (.tup (xs.map val)) p = _
      rw [upd_same, mval_fzL]
    have w2 : W (tab X c) (upd H1 p (.tup (xs.map val))) (.nd .tup false p 0 (Tr.fzL xs) :: R) := w1.node hp hn (fun _ _ _ q => nomatch q) fun _ => fzL_own w
    exact hz _ _ (by rw [er, erL_fz]) w2
  · cases e
theorem se_lst (h : SL X c es fl) : SE X c (.List es pos) (fCallL gLstL fl) := pe_imp (pe_lst h) fun σ H Q h => by
  refine fCallL_ok (r := fun xs H1 Q => xs.length ≤ sizeLine ∧ ∀ p, H1 p = none → Q (.ref p) (upd H1 p (.lst xs))) (fun H1 xs R t Q w e hz => ?_) h
  unfold gLstL at e
  split at e
  · rename_i hl
    cases e
    rw [len_erL] at hl
    refine ⟨by rw [List.length_map]; exact hl, fun p hp => ?_⟩
    have w2 : W (tab X c) (upd H1 p (.lst (xs.map val))) (.nd (.lst true) false p 0 xs :: R) := w.node hp ⟨rfl, upd_same⟩ (fun _ _ _ q => nomatch q) fun q => nomatch q
    exact hz _ _ (by rw [er]) w2
  · cases e
/-! ### constants, names, places -/
theorem se_const {f' : TE} {v : V} {x : A} (h : PE X e (tC v)) (hv : val x = v) (hx : ∀ {H R}, W (tab X c) H R → W (tab X c) H (x :: R)) : SE X c e (M.ret (er x)) := pe_imp h fun σ H Q h => by
  obtain ⟨ρ, R, I, P⟩ := h
  subst hv
  refine P x H rfl (I.imp fun S w => hx w)
theorem se_int {i j} : SE X c (.Constant (.int i) j pos) (M.ret (.int i)) := se_const (f' := tC .non) (x := .int i) pe_int rfl fun w => w.int
theorem se_bl {i j} : SE X c (.Constant (.bool i) j pos) (M.ret (.bl i)) := se_const (f' := tC .non) (x := .bl i) pe_bl rfl fun w => w.bl
theorem se_non {j} : SE X c (.Constant .none j pos) (M.ret .non) := se_const (f' := tC .non) (x := .non) pe_non rfl fun w => w.non
theorem se_str {i j} : SE X c (.Constant (.str i) j pos) (M.ret (.str i)) := se_const (f' := tC .non) (x := .str i) pe_str rfl fun w => w.str
/-- a name as a place -/
def fPl (i : Nat) : M (Nat × List Nat) := fun ρ => match ρ[i]? with
  | some (some _) => .ok (i, []) ρ
  | _ => .bad
theorem sb_var (i : Nat) {x : Str} (hN : X.N[i]? = some x := by rfl) (hv : Vis X.env.scope x := by first | exact Or.inl rfl | exact Or.inr (Or.inl rfl) | exact Or.inr (Or.inr rfl)) (hd : (x == ("__debug__" : Str)) = false := by decide)
    (hcd : (x == ("__classdict__" : Str)) = false := by decide) : SB X c (.Name x pos) (fPl i) := pe_imp (pe_var hN hv hd hcd) fun σ H Q h => by
  obtain ⟨ρ, R, I, P⟩ := h
  unfold fPl at P
  split at P
  · rename_i t e
    obtain ⟨ρA, eA, m, w⟩ := I
    obtain ⟨root, leaf, h1, h2, q⟩ := P ρA H eA m w
    have : leaf = root := by cases root <;> exact (Option.some.inj h2).symm
    subst this
    exact ⟨val leaf, m.at_ i leaf h1, q⟩
  · exact P.elim
/-- a place is read -/
def rdPl (ip : Nat × List Nat) : M T := fun ρ => match ρ[ip.1]? with
  | some (some r) => match r.get ip.2 with
    | some l => .ok l.fz (ρ.set ip.1 (some (r.set ip.2 l.fz)))
    | none => .bad
  | _ => .bad
theorem rdPl_ok {σ : L2.St} {H : Hp} {R : List A} {Q : VK} {ip : Nat × List Nat} {ρA : AEnv} (m : Mat ρA σ) (w : W (tab X c) H (slots ρA ++ R)) (P : Post X c σ R (KE X c σ R Q) (rdPl ip (erE ρA))) :
    ∃ root leaf, ρA[ip.1]? = some (some root) ∧ aget root ip.2 = some leaf ∧ Q (val leaf) H := by
  unfold rdPl at P
  split at P
  · rename_i t e
    obtain ⟨root, er1, et⟩ := erE_some e
    subst et
    rw [er_aget] at P
    cases el : aget root ip.2 with
    | none => rw [el] at P; exact P.elim
    | some leaf =>
      rw [el] at P
      refine ⟨root, leaf, er1, el, ?_⟩
      have hlt : ip.1 < ρA.length := (List.getElem?_eq_some_iff.mp er1).1
      have w1 := w.take er1
      obtain ⟨w2, ev⟩ := w1.read el
      have w3 : W (tab X c) H (aset root ip.2 (fz leaf) :: (slots (ρA.set ip.1 none) ++ (fz leaf :: R))) := w2.perm (by
        refine (List.Perm.cons _ ?_).trans (.swap _ _ _)
        exact List.perm_middle)
      have w4 := W.put w3 hlt
      have q := P (fz leaf) H (er_fz leaf) ⟨ρA.set ip.1 (some (aset root ip.2 (fz leaf))), by rw [erE_set, Option.map_some, er_aset, er_fz], m.set fun _ => by rw [ev]; exact m.at_ _ _ er1, w4⟩
      rw [val_fz] at q
      exact q
  · exact P.elim
def fRd (fp : M (Nat × List Nat)) : M T := fp.bind rdPl
theorem se_rd {fp : M (Nat × List Nat)} (h : SB X c e fp) : SE X c e (fRd fp) := pe_imp h fun σ H Q h => by
  obtain ⟨ρ, R, I, P⟩ := h
  exact sb_then I P fun ip ρA H1 m w P1 => rdPl_ok m w P1
theorem se_var (i : Nat) {x : Str} (hN : X.N[i]? = some x := by rfl) (hv : Vis X.env.scope x := by first | exact Or.inl rfl | exact Or.inr (Or.inl rfl) | exact Or.inr (Or.inr rfl)) (hd : (x == ("__debug__" : Str)) = false := by decide)
    (hcd : (x == ("__classdict__" : Str)) = false := by decide) : SE X c (.Name x pos) (fRd (fPl i)) := se_rd (sb_var i hN hv hd hcd)
end
end Tr
end

section
set_option Elab.async false
set_option linter.all false
set_option autoImplicit false
set_option maxRecDepth 100000
/-! Calls of defs, statements, places that are changed. -/
namespace Tr
open PySem PySem.Spec PyProof.Rows L2

/-! ### what a def does -/
/-- what a call comes to: the value, and the arguments' trees behind it (hole: not told) -/
inductive CO where
  | ret (t : T) (ts : List T) | exc (e : Ex) (ts : List T) | bad
abbrev CF := List T → CO
def spF (B : Tab) (f : CF) : Sp := fun vs H Q E => ∃ xs R, W B H (xs ++ R) ∧ xs.map val = vs ∧
  match f (erL xs) with
  | .ret t ts => ∀ r ys H', er r = t → erL ys = ts → ys.map val = vs → W B H' (r :: (ys ++ R)) → Q (val r) H'
  | .exc e ts => ∀ ys H' cls d, erL ys = ts → ys.map val = vs → W B H' (ys ++ R) → ExOk B H' e cls d → E cls d H'
  | .bad => False

/-! ### arguments: values, and names whose objects the callee may change -/
inductive AR where
  | v (t : T) | i (j : Nat)
def arT : List AR → List T
  | [] => []
  | .v t :: l => t :: arT l
  | .i _ :: l => arT l
inductive ArV (σ : L2.St) : List AR → List A → List V → Prop where
  | nil : ArV σ [] [] []
  | v {t : T} {l : List AR} {r : A} {rs : List A} {vs : List V} : ArV σ l rs vs → ArV σ (.v t :: l) (r :: rs) (val r :: vs)
  | i {j : Nat} {v : V} {l : List AR} {rs : List A} {vs : List V} : σ[j]? = some (some v) → ArV σ l rs vs → ArV σ (.i j :: l) rs (v :: vs)
def KM (X : Cx) (c : Cu) (σ : L2.St) (R : List A) (Q : List V → Hp → Prop) : List AR → Env → Prop := fun ars ρ => ∀ rs H, erL rs = arT ars → SI X c σ H ρ (rs ++ R) → ∀ vs, ArV σ ars rs vs → Q vs H
def SMr (X : Cx) (c : Cu) (f : M (List AR)) : TA := fun σ H Q => ∃ ρ R, SI X c σ H ρ R ∧ Post X c σ R (KM X c σ R Q) (f ρ)
def SM (X : Cx) (c : Cu) (es : List Expr) (f : M (List AR)) : Prop := PA X es (SMr X c f)
def gather : List AR → Env → Option (List T × Env)
  | [], ρ => some ([], ρ)
  | .v t :: l, ρ => match gather l ρ with
    | some (ts, ρ') => some (t :: ts, ρ')
    | none => none
  | .i j :: l, ρ => match ρ[j]? with
    | some (some t) => match gather l (ρ.set j none) with
      | some (ts, ρ') => some (t :: ts, ρ')
      | none => none
    | _ => none
def scatter : List AR → List T → Env → Env
  | .v _ :: l, _ :: ts, ρ => scatter l ts ρ
  | .i j :: l, t :: ts, ρ => scatter l ts (ρ.set j (some t))
  | _, _, ρ => ρ
def fANil : M (List AR) := M.ret []
def fAV (f : M T) (fl : M (List AR)) : M (List AR) := f.bind fun x => fl.bind fun xs => M.ret (.v x :: xs)
def fAI (j : Nat) (fl : M (List AR)) : M (List AR) := fun ρ => match ρ[j]? with
  | some (some _) => (fl.bind fun xs => M.ret (.i j :: xs)) ρ
  | _ => .bad
section
variable {X : Cx} {c : Cu} {e : Expr} {es : List Expr} {pos : Pos} {f : M T} {fl : M (List AR)}
theorem sm_nil : SM X c [] fANil := pa_imp pa_nil fun σ H Q h => by
  obtain ⟨ρ, R, I, P⟩ := h
  exact P [] H rfl I [] .nil
theorem sm_v (ha : SE X c e f) (hr : SM X c es fl) (hs : starEach (e :: es) X.env = (false, eval e X.env) :: starEach es X.env := by rfl) : SM X c (e :: es) (fAV f fl) := pa_imp (pa_cons ha hr hs) fun σ H Q h => by
  obtain ⟨ρ, R, I, P⟩ := h
  refine se_then I P fun x H1 ρ1 I1 P1 => ?_
  refine ⟨ρ1, x :: R, I1, (Post.bind.mp P1.more).mono (fun _ _ i => i) fun ars ρ2 q rs H2 e2 I2 vs av => ?_⟩
  exact q (x :: rs) H2 (by rw [erL, e2]; rfl) (I2.perm List.perm_middle.symm) _ (.v av)
theorem sm_i (j : Nat) {x : Str} (hr : SM X c es fl) (hN : X.N[j]? = some x := by rfl) (hv : Vis X.env.scope x := by first | exact Or.inl rfl | exact Or.inr (Or.inl rfl) | exact Or.inr (Or.inr rfl)) (hd : (x == ("__debug__" : Str)) = false := by decide)
    (hcd : (x == ("__classdict__" : Str)) = false := by decide) (hs : starEach (.Name x pos :: es) X.env = (false, eval (.Name x pos) X.env) :: starEach es X.env := by rfl) : SM X c (.Name x pos :: es) (fAI j fl) :=
  pa_imp (pa_cons (pe_var hN hv hd hcd) hr hs) fun σ H Q h => by
    obtain ⟨ρ, R, I, P⟩ := h
    unfold fAI at P
    split at P
    · rename_i t et
      obtain ⟨ρA, eA, m, w⟩ := id I
      subst eA
      obtain ⟨root, er1, _⟩ := erE_some et
      refine ⟨val root, m.at_ j root er1, ?_⟩
      refine ⟨erE ρA, R, I, (Post.bind.mp P).mono (fun _ _ i => i) fun ars ρ2 q rs H2 e2 I2 vs av => ?_⟩
      exact q rs H2 e2 I2 _ (.i (m.at_ j root er1) av)
    · exact P.elim
end
theorem gather_ok {B : Tab} {H : Hp} {σ : L2.St} : ∀ {ars : List AR} {ρA : AEnv} {rs R : List A} {vs : List V} {ts : List T} {ρ' : Env}, Mat ρA σ → W B H (slots ρA ++ (rs ++ R)) → erL rs = arT ars → ArV σ ars rs vs → gather ars (erE ρA) = some (ts, ρ') →
    ∃ xs ρA', erL xs = ts ∧ erE ρA' = ρ' ∧ Mat ρA' σ ∧ xs.map val = vs ∧ W B H (xs ++ (slots ρA' ++ R))
  | [], ρA, rs, R, vs, ts, ρ', m, w, e, av, g => by
    cases av
    cases g
    exact ⟨[], ρA, rfl, rfl, m, rfl, w⟩
  | .v t :: l, ρA, rs, R, vs, ts, ρ', m, w, e, av, g => by
    cases av with
    | @v _ _ r rs' vs' av =>
      rw [gather] at g
      split at g
      · rename_i ts1 ρ1 g1
        cases g
        have w1 : W B H (slots ρA ++ (rs' ++ (r :: R))) := w.perm (by
          refine List.Perm.append_left _ ?_
          rw [List.cons_append]
          exact List.perm_middle)
        obtain ⟨xs, ρA', i1, i2, i3, i4, i5⟩ := gather_ok (rs := rs') m w1 (by rw [erL, arT] at e; exact (List.cons.inj e).2) av g1
        refine ⟨r :: xs, ρA', ?_, i2, i3, by rw [List.map_cons, i4], ?_⟩
        · rw [erL, i1]
          rw [erL, arT] at e
          rw [(List.cons.inj e).1]
        · rw [← List.append_assoc] at i5
          have := i5.mid
          rw [List.append_assoc] at this
          exact this
      · cases g
  | .i j :: l, ρA, rs, R, vs, ts, ρ', m, w, e, av, g => by
    cases av with
    | @i _ v _ _ vs' hv av =>
      rw [gather] at g
      split at g
      · rename_i t et
        obtain ⟨root, er1, et2⟩ := erE_some et
        split at g
        · rename_i ts1 ρ1 g1
          cases g
          have w1 := w.take er1
          have w2 : W B H (slots (ρA.set j none) ++ (rs ++ (root :: R))) := w1.perm (by
            rw [← List.append_assoc, ← List.append_assoc]
            exact List.perm_middle)
          obtain ⟨xs, ρA', i1, i2, i3, i4, i5⟩ := gather_ok (ars := l) (rs := rs) (ρA := ρA.set j none) m.unset w2 (by rw [arT] at e; exact e) av (by rw [erE_set]; exact g1)
          refine ⟨root :: xs, ρA', by rw [erL, i1, et2], i2, i3, ?_, ?_⟩
          · have q := m.at_ j root er1
            rw [hv] at q
            rw [List.map_cons, i4, ← Option.some.inj (Option.some.inj q)]
          · rw [← List.append_assoc] at i5
            have := i5.mid
            rw [List.append_assoc] at this
            exact this
        · cases g
      · cases g
theorem scatter_ok {B : Tab} {H : Hp} {σ : L2.St} : ∀ {ars : List AR} {ρA : AEnv} {rs ys R : List A} {vs : List V}, Mat ρA σ → ArV σ ars rs vs → ys.map val = vs → W B H (ys ++ (slots ρA ++ R)) →
    ∃ ρA', erE ρA' = scatter ars (erL ys) (erE ρA) ∧ Mat ρA' σ ∧ W B H (slots ρA' ++ R)
  | [], ρA, rs, ys, R, vs, m, av, ev, w => by
    cases av
    have : ys = [] := by simpa using ev
    subst this
    exact ⟨ρA, rfl, m, w⟩
  | .v t :: l, ρA, rs, ys, R, vs, m, av, ev, w => by
    cases av with
    | v av =>
      cases ys with
      | nil => cases ev
      | cons y ys =>
        obtain ⟨ρA', i1, i2, i3⟩ := scatter_ok (ρA := ρA) m av (by simpa using (List.cons.inj ev).2) w.drop
        exact ⟨ρA', by rw [erL, scatter]; exact i1, i2, i3⟩
  | .i j :: l, ρA, rs, ys, R, vs, m, av, ev, w => by
    cases av with
    | @i _ v _ _ vs' hv av =>
      cases ys with
      | nil => cases ev
      | cons y ys =>
        have hlt : j < ρA.length := by
          rw [m.len]
          exact (List.getElem?_eq_some_iff.mp hv).1
        have ey : val y = v := (List.cons.inj ev).1
        have w1 : W B H (y :: (slots ρA ++ (ys ++ R))) := w.perm (by
          rw [List.cons_append]
          refine List.Perm.cons _ ?_
          rw [← List.append_assoc, ← List.append_assoc]
          exact List.Perm.append_right _ List.perm_append_comm)
        have w2 := w1.store (i := j) hlt
        have w3 : W B H (ys ++ (slots (ρA.set j (some y)) ++ R)) := w2.perm (by
          rw [← List.append_assoc, ← List.append_assoc]
          exact List.Perm.append_right _ List.perm_append_comm)
        obtain ⟨ρA', i1, i2, i3⟩ := scatter_ok (ρA := ρA.set j (some y)) (m.set fun _ => by rw [ey]; exact hv) av (by simpa using (List.cons.inj ev).2) w3
        exact ⟨ρA', by rw [erL, scatter, i1, erE_set]; rfl, i2, i3⟩
/-- a call, behind its arguments -/
def callAR (cf : CF) (ars : List AR) : M T := fun ρ => match gather ars ρ with
  | none => .bad
  | some (ts, ρ1) => match cf ts with
    | .ret t ts' => .ok t (scatter ars ts' ρ1)
    | .exc e ts' => .exc e (scatter ars ts' ρ1)
    | .bad => .bad
def fCall (cf : CF) (fa : M (List AR)) : M T := fa.bind fun ars => callAR cf ars
section
variable {X : Cx} {c : Cu} {σ : L2.St} {H : Hp} {Q : VK} {cf : CF} {fa : M (List AR)}
theorem callAR_ok {ars : List AR} {ρ : Env} {rs R : List A} {vs : List V} (q : Post X c σ R (KE X c σ R Q) (callAR cf ars ρ)) (I : SI X c σ H ρ (rs ++ R)) (e : erL rs = arT ars) (av : ArV σ ars rs vs) :
    spF (tab X c) cf vs H Q (fun cls d H' => c.X cls d σ H') := by
  obtain ⟨ρA, eA, m, w⟩ := I
  subst eA
  unfold callAR at q
  split at q
  · exact q.elim
  · rename_i ts ρ2 g
    obtain ⟨xs, ρA', i1, i2, i3, i4, i5⟩ := gather_ok m w e av g
    refine ⟨xs, slots ρA' ++ R, i5, i4, ?_⟩
    rw [i1]
    split at q
    · rename_i t ts' ec
      intro r ys H' er1 ey ev w'
      have w2 : W (tab X c) H' (ys ++ (slots ρA' ++ (r :: R))) := w'.perm (by
        rw [← List.append_assoc, ← List.append_assoc]
        exact List.perm_middle)
      obtain ⟨ρA2, j1, j2, j3⟩ := scatter_ok i3 av ev w2
      refine q r H' er1 ⟨ρA2, ?_, j2, j3⟩
      rw [j1, ey, i2]
    · rename_i e ts' ec
      intro ys H' cls d ey ev w' ex
      obtain ⟨ρA2, j1, j2, j3⟩ := scatter_ok i3 av ev w'
      exact q H' cls d ⟨ρA2, by rw [j1, ey, i2], j2, j3⟩ ex
    · exact q.elim
theorem fCall_ok (h : SEr X c (fCall cf fa) σ H Q) : SMr X c fa σ H (fun vs H1 => spF (tab X c) cf vs H1 Q (fun cls d H' => c.X cls d σ H')) := by
  obtain ⟨ρ, R, I, P⟩ := h
  exact ⟨ρ, R, I, (Post.bind.mp P).mono (fun _ _ i => i) fun ars ρ1 q rs H1 e1 I1 vs av => callAR_ok q I1 e1 av⟩
end

/-! ### the forms of a call -/
section
variable {X : Cx} {CX : CXT} {k : Nat} {f C : Addr} {fd : FuncData} {ps : List Str} {sp : Sp} {E : L2.St → XK} {x m : Str} {p pos apos : Pos} {e o : Expr} {es : List Expr} {ta : TE} {t : TA}
theorem pe_callSD0 (F : FnOk X.prog X.w X.K X.mg X.base CX k f fd ps sp) (hr : Room k X.A) (hg : Gl X x) (hm : X.mg x = some (.ref f)) (hk : PySem.W.keepIn X.K (.ref f) = true) (hb : Binds X.K fd ps []) (hx : ∀ σ, PassesAt CX X σ (E σ))
    (hdb : (x == ("__debug__" : Str)) = false := by decide) : PE X (.Call (.Name x p) [] [] pos) (fun σ H Q => sp [] H Q (E σ)) := by
  refine ⟨fun pins s σ H Q I h => ?_⟩
  refine wpAny_Call_Name_kw (ld_glob I hg hm ?_ hdb)
  exact PySem.W.callWith_K0 I.kIn hk (run_fnSD (us := []) (vs := []) (dvs := []) F hr hb .nil (hx σ) I .nil h)
/-- o.m(e, ..): the receiver's reading, the method that its class has -/
theorem pe_methSD {pl : Sem Bool} (he : PE X o ta) (c : Cls X.K C) (hm : Meth X.K C m f) (F : FnOk X.prog X.w X.K X.mg X.base CX k f fd ps sp) (hr : Room k X.A) (hb : Binds X.K fd ps []) (hx : ∀ σ, PassesAt CX X σ (E σ)) (ha : PA X (e :: es) t)
    (hst : starEach (e :: es) X.env = (false, eval e X.env) :: starEach es X.env := by rfl) (hpl : (backTo pos (starEach es X.env)).any (·.1) = false := by rfl)
    (ht : eval (.Call (.Attribute o m apos) (e :: es) [] pos) X.env = (do
      let ov ← eval o X.env
      standAt apos.atName
      let (f, first) ← holding [ov] (getMethod ov m pl)
      callWith pos f first (backTo pos (starEach (e :: es) X.env)) (backToKw pos (keywordEach [] X.env))) := by rfl) :
    PE X (.Call (.Attribute o m apos) (e :: es) [] pos) (fun σ H Q => ta σ H fun x H1 => ∃ a dx fs, x = .ref a ∧ H1 a = some (.ins C dx fs) ∧ fs.lookup m = none ∧ t σ H1 fun vs H2 => sp (x :: vs) H2 Q (E σ)) := by
  refine ⟨fun pins s σ H Q I h => ?_⟩
  refine PySem.W.methodCall_KW (pl := pl) (thn (he.run pins s σ H _ I h) fun u s1 ⟨x, H1, I1, rx, a, dx, fs, ex, ea, l, q⟩ => ?_) ht
  subst ex
  obtain rfl : u = Value.ref a := rx
  refine getmeth_ok I1 ea c hm l ?_
  refine PySem.W.callWith_K (first := [.ref a]) (h₀ := X.base) I.ok.mod.kin hm.kp (thn (ha.run pos pins s1 σ H1 _ I1 q) fun us s2 ⟨vs, H2, I2, r, q2⟩ => ⟨I2.kIn, ?_⟩) hst hpl
  exact run_fnSD (us := .ref a :: us) (vs := .ref a :: vs) (dvs := []) F hr hb .nil (hx σ) I2 (.cons rfl r) (by rw [List.append_nil]; exact q2)
theorem pe_methSD0 {pl : Sem Bool} (he : PE X o ta) (c : Cls X.K C) (hm : Meth X.K C m f) (F : FnOk X.prog X.w X.K X.mg X.base CX k f fd ps sp) (hr : Room k X.A) (hb : Binds X.K fd ps []) (hx : ∀ σ, PassesAt CX X σ (E σ))
    (ht : eval (.Call (.Attribute o m apos) [] [] pos) X.env = (do
      let ov ← eval o X.env
      standAt apos.atName
      let (f, first) ← holding [ov] (getMethod ov m pl)
      callWith pos f first (backTo pos (starEach [] X.env)) (backToKw pos (keywordEach [] X.env))) := by rfl) :
    PE X (.Call (.Attribute o m apos) [] [] pos) (fun σ H Q => ta σ H fun x H1 => ∃ a dx fs, x = .ref a ∧ H1 a = some (.ins C dx fs) ∧ fs.lookup m = none ∧ sp [x] H1 Q (E σ)) := by
  refine ⟨fun pins s σ H Q I h => ?_⟩
  refine PySem.W.methodCall_KW (pl := pl) (thn (he.run pins s σ H _ I h) fun u s1 ⟨x, H1, I1, rx, a, dx, fs, ex, ea, l, q⟩ => ?_) ht
  subst ex
  obtain rfl : u = Value.ref a := rx
  refine getmeth_ok I1 ea c hm l ?_
  exact PySem.W.callWith_K0 (first := [.ref a]) I1.kIn hm.kp (run_fnSD (us := [.ref a]) (vs := [.ref a]) (dvs := []) F hr hb .nil (hx σ) I1 (.cons rfl .nil) (by rw [List.append_nil]; exact q))
theorem run_makeSD {pins : List (Addr × Obj)} {σ : L2.St} {H : Hp} {s : Shared} {Q : VK} {us : List Value} {vs : List V} (M : Mk X.K C f) (F : FnOk X.prog X.w X.K X.mg X.base CX k f fd ps sp) (hr : Room (k + 1) X.A) (hb : Binds X.K fd ps [])
    (hx : ∀ x dx, H x = none → H dx = none → ∀ s e s', Inv X pins σ (upd (upd H dx (.own x)) x (.ins C dx [])) s → CX X.stack (upd (upd H dx (.own x)) x (.ins C dx [])) s (E σ) e s' → X.xe e s') (I : Inv X pins σ H s) (r : Vals vs us)
    (h : ∀ x dx, H x = none → H dx = none → dx ≠ x → sp (.ref x :: vs) (upd (upd H dx (.own x)) x (.ins C dx [])) (fun v H2 => v = .non ∧ Q (.ref x) H2) (E σ)) :
    wpAny (model X.prog X.w) X.A (call (.ref C) us) (EP X pins σ Q) X.xe s := by
  have f1 := I.hok.fresh (Nat.le_succ s.heap.objs.size)
  have f2 := I.hok.fresh (Nat.le_refl s.heap.objs.size)
  have hq := h (s.heap.objs.size + 1) s.heap.objs.size f1 f2 (Nat.ne_of_lt (Nat.lt_succ_self _))
  have I2 := Inv.made (C := C) I
  have r2 : Vals (V.ref (s.heap.objs.size + 1) :: vs) (Value.ref (s.heap.objs.size + 1) :: us) := .cons rfl r
  have hl : ((Value.ref (s.heap.objs.size + 1) :: us) ++ []).length = ps.length := by
    have e := r2.length
    rw [F.len _ _ _ _ hq] at e
    rw [List.append_nil]
    exact e.symm
  have hbb := hb { s with heap := (s.heap.push PySem.W.emptyDict).push (PySem.W.instObj C s.heap.objs.size) } (Value.ref (s.heap.objs.size + 1) :: us) I2.kIn hl
  rw [List.append_nil] at hbb
  refine wpAny_call (make_map (f := f) I.kIn M.makes M.init (beq_iff_eq.mp M.fn) (codeAny_mono (F.run _ X.stack _ _ ⟨Value.ref (s.heap.objs.size + 1) :: us, []⟩ (Value.ref (s.heap.objs.size + 1) :: us) _ _ (E σ) (hr.make C us [])
    (I2.env0.make C us []) hbb r2 hq) fun r s' hq' => ?_))
  cases r with
  | error e => exact hx _ _ f1 f2 _ e s' I2 hq'
  | ok fl =>
    cases fl with
    | ret u =>
      obtain ⟨v, H', I3, rv, ev, q3⟩ := I2.after hq'
      subst ev
      exact ⟨rv, ⟨V.ref (s.heap.objs.size + 1), H', I3, rfl, q3⟩⟩
    | next => exact False.elim hq'
    | brk => exact False.elim hq'
    | cont => exact False.elim hq'
theorem pe_makeSD (M : Mk X.K C f) (F : FnOk X.prog X.w X.K X.mg X.base CX k f fd ps sp) (hr : Room (k + 1) X.A) (hg : Gl X x) (hm : X.mg x = some (.ref C)) (hb : Binds X.K fd ps []) (hx : ∀ σ, PassesAt CX X σ (E σ))
    (ha : PA X (e :: es) t) (hdb : (x == ("__debug__" : Str)) = false := by decide) (he : starEach (e :: es) X.env = (false, eval e X.env) :: starEach es X.env := by rfl) (hpl : (backTo pos (starEach es X.env)).any (·.1) = false := by rfl) :
    PE X (.Call (.Name x p) (e :: es) [] pos) (fun σ H Q => t σ H fun vs H1 => ∀ x dx, H1 x = none → H1 dx = none → dx ≠ x → sp (.ref x :: vs) (upd (upd H1 dx (.own x)) x (.ins C dx [])) (fun v H2 => v = .non ∧ Q (.ref x) H2) (E σ)) := by
  refine ⟨fun pins s σ H Q I h => ?_⟩
  refine wpAny_Call_Name_kw (ld_glob I hg hm ?_ hdb)
  refine PySem.W.callWith_K (h₀ := X.base) I.ok.mod.kin M.kp (thn (ha.run pos pins s σ H _ I h) fun us s1 ⟨vs, H1, I1, r, q⟩ => ⟨I1.kIn, ?_⟩) he hpl
  exact run_makeSD M F hr hb (fun _ _ _ _ s e s' I' cx => hx σ pins _ s e s' I' cx) I1 r q
theorem pe_makeSD0 (M : Mk X.K C f) (F : FnOk X.prog X.w X.K X.mg X.base CX k f fd ps sp) (hr : Room (k + 1) X.A) (hg : Gl X x) (hm : X.mg x = some (.ref C)) (hb : Binds X.K fd ps []) (hx : ∀ σ, PassesAt CX X σ (E σ))
    (hdb : (x == ("__debug__" : Str)) = false := by decide) : PE X (.Call (.Name x p) [] [] pos) (fun σ H Q => ∀ x dx, H x = none → H dx = none → dx ≠ x → sp [.ref x] (upd (upd H dx (.own x)) x (.ins C dx [])) (fun v H2 => v = .non ∧ Q (.ref x) H2) (E σ)) := by
  refine ⟨fun pins s σ H Q I h => ?_⟩
  refine wpAny_Call_Name_kw (ld_glob I hg hm ?_ hdb)
  exact PySem.W.callWith_K0 I.kIn M.kp (run_makeSD (us := []) (vs := []) M F hr hb (fun _ _ _ _ s e s' I' cx => hx σ pins _ s e s' I' cx) I .nil h)
end

section
variable {X : Cx} {c : Cu} {CX : CXT} {k : Nat} {f C : Addr} {fd : FuncData} {ps : List Str} {x m : Str} {p pos apos : Pos} {e o : Expr} {es : List Expr} {cf : CF} {fa : M (List AR)} {fo : M T}
/-- what an exception of a callee may be -/
abbrev Lets (X : Cx) (c : Cu) (CX : CXT) : Prop := ∀ σ, PassesAt CX X σ (fun cls d H' => c.X cls d σ H')
theorem se_call (F : FnOk X.prog X.w X.K X.mg X.base CX k f fd ps (spF (tab X c) cf)) (hr : Room k X.A) (hx : Lets X c CX) (hm : X.mg x = some (.ref f)) (hk : PySem.W.keepIn X.K (.ref f) = true) (hb : Binds X.K fd ps []) (ha : SM X c (e :: es) fa)
    (hg : Gl X x := by rfl) (hdb : (x == ("__debug__" : Str)) = false := by decide) (he : starEach (e :: es) X.env = (false, eval e X.env) :: starEach es X.env := by rfl) (hpl : (backTo pos (starEach es X.env)).any (·.1) = false := by rfl) :
    SE X c (.Call (.Name x p) (e :: es) [] pos) (fCall cf fa) :=
  pe_imp (pe_callSD (E := fun σ cls d H' => c.X cls d σ H') F hr hg hm hk hb .nil hx ha hdb he hpl) fun σ H Q h => by
    have := fCall_ok h
    unfold tCallSD
    simp only [List.append_nil]
    exact this
theorem se_call0 (F : FnOk X.prog X.w X.K X.mg X.base CX k f fd ps (spF (tab X c) cf)) (hr : Room k X.A) (hx : Lets X c CX) (hm : X.mg x = some (.ref f)) (hk : PySem.W.keepIn X.K (.ref f) = true) (hb : Binds X.K fd ps [])
    (hg : Gl X x := by rfl) (hdb : (x == ("__debug__" : Str)) = false := by decide) : SE X c (.Call (.Name x p) [] [] pos) (fCall cf fANil) :=
  pe_imp (pe_callSD0 (E := fun σ cls d H' => c.X cls d σ H') F hr hg hm hk hb hx hdb) fun σ H Q h => by
    obtain ⟨ρ, R, I, P⟩ := fCall_ok h
    exact P [] H rfl I [] .nil
theorem lookup_zip_none {m : Str} : ∀ {ns : List Str} {vs : List V}, m ∉ ns → (ns.zip vs).lookup m = none
  | [], _, _ => rfl
  | _ :: _, [], _ => rfl
  | n :: ns, v :: vs, h => by
    rw [List.zip_cons_cons, List.lookup_cons]
    have : (m == n) = false := by simp; intro e; subst e; simp at h
    rw [this]
    exact lookup_zip_none (ns := ns) fun q => h (List.mem_cons_of_mem _ q)
/-- an instance of the class cn without an attribute m -/
def isRecv (cn : Nat) (m : Str) : T → Bool
  | .nd (.obj _ c' ns) _ => c' == cn && !ns.contains m
  | _ => false
theorem recv_ok {B : Tab} {H : Hp} {x : A} {cn : Nat} (h : Ok B H x) (e : isRecv cn m (er x) = true) : ∃ a dx fs, val x = .ref a ∧ H a = some (.ins (B.ct cn) dx fs) ∧ fs.lookup m = none := by
  cases x with
  | nd k w a dx ys =>
    cases k with
    | obj mm c' ns =>
      rw [er] at e
      simp only [isRecv, Bool.and_eq_true, beq_iff_eq, Bool.not_eq_true'] at e
      obtain ⟨rfl, e2⟩ := e
      obtain ⟨⟨_, _, _, _, hh⟩, _⟩ := h
      refine ⟨a, dx, _, rfl, hh, lookup_zip_none fun q => ?_⟩
      rw [List.contains_iff_mem.mpr q] at e2
      cases e2
    | _ => rw [er] at e; cases e
  | _ => cases e
/-- the receiver is a value -/
def fMethV (cn : Nat) (m : Str) (cf : CF) (fo : M T) (fa : M (List AR)) : M T := fo.bind fun t => if isRecv cn m t then fa.bind fun ars => callAR cf (.v t :: ars) else fun _ => .bad
theorem fMethV_ok {cn : Nat} {σ : L2.St} {H : Hp} {Q : VK} (h : SEr X c (fMethV cn m cf fo fa) σ H Q) : SEr X c fo σ H fun x H1 => ∃ a dx fs, x = .ref a ∧ H1 a = some (.ins (c.ct cn) dx fs) ∧ fs.lookup m = none ∧
    SMr X c fa σ H1 fun vs H2 => spF (tab X c) cf (x :: vs) H2 Q (fun cls d H' => c.X cls d σ H') := by
  obtain ⟨ρ, R, I, P⟩ := h
  refine se_then I P fun x H1 ρ1 I1 P1 => ?_
  split at P1
  · rename_i hrc
    obtain ⟨ρA, eA, m1, w1⟩ := id I1
    have ox : Ok (tab X c) H1 x := (okL_append.mp w1.ok).2.1
    obtain ⟨a, dx, fs, q1, q2, q3⟩ := recv_ok ox hrc
    refine ⟨a, dx, fs, q1, q2, q3, ρ1, x :: R, I1, ?_⟩
    refine (Post.bind.mp P1).mono (fun _ _ i => i.drop) fun ars ρ5 q5 => ?_
    intro rs H5 e5 I5 vs5 av5
    exact callAR_ok (rs := x :: rs) q5 (I5.perm (by exact List.perm_middle.symm)) (by rw [erL, arT, e5]) (.v av5)
  · exact P1.elim
section
variable {pl : Sem Bool} {cn : Nat} (hc : Cls X.K (c.ct cn)) (hm : Meth X.K (c.ct cn) m f) (F : FnOk X.prog X.w X.K X.mg X.base CX k f fd ps (spF (tab X c) cf)) (hr : Room k X.A) (hx : Lets X c CX) (hb : Binds X.K fd ps [])
include hc hm F hr hx hb
theorem se_methV (ho : SE X c o fo) (ha : SM X c (e :: es) fa)
    (hst : starEach (e :: es) X.env = (false, eval e X.env) :: starEach es X.env := by rfl) (hpl : (backTo pos (starEach es X.env)).any (·.1) = false := by rfl)
    (ht : eval (.Call (.Attribute o m apos) (e :: es) [] pos) X.env = (do
      let ov ← eval o X.env
      standAt apos.atName
      let (f, first) ← holding [ov] (getMethod ov m pl)
      callWith pos f first (backTo pos (starEach (e :: es) X.env)) (backToKw pos (keywordEach [] X.env))) := by rfl) :
    SE X c (.Call (.Attribute o m apos) (e :: es) [] pos) (fMethV cn m cf fo fa) :=
  pe_imp (pe_methSD (E := fun σ cls d H' => c.X cls d σ H') ho hc hm F hr hb hx ha hst hpl ht) fun σ H Q h => fMethV_ok h
theorem se_methV0 (ho : SE X c o fo)
    (ht : eval (.Call (.Attribute o m apos) [] [] pos) X.env = (do
      let ov ← eval o X.env
      standAt apos.atName
      let (f, first) ← holding [ov] (getMethod ov m pl)
      callWith pos f first (backTo pos (starEach [] X.env)) (backToKw pos (keywordEach [] X.env))) := by rfl) :
    SE X c (.Call (.Attribute o m apos) [] [] pos) (fMethV cn m cf fo fANil) :=
  pe_imp (pe_methSD0 (E := fun σ cls d H' => c.X cls d σ H') ho hc hm F hr hb hx ht) fun σ H Q h => by
    obtain ⟨ρ, R, I, P⟩ := fMethV_ok h
    refine ⟨ρ, R, I, P.mono (fun _ _ i => i) fun t ρ1 q r H1 e I1 => ?_⟩
    obtain ⟨a, dx, fs, q1, q2, q3, ρ2, R2, I2, P2⟩ := q r H1 e I1
    exact ⟨a, dx, fs, q1, q2, q3, P2 [] H1 rfl I2 [] .nil⟩
end
/-- the receiver is a place whose object the method may change -/
def fMethP (cn : Nat) (m : Str) (cf : CF) (fp : M (Nat × List Nat)) (fa : M (List AR)) : M T := fp.bind fun ip ρ => match ρ[ip.1]? with
  | some (some root) => match root.get ip.2 with
    | some leaf => if isRecv cn m leaf && root.pown ip.2 then
        (fa.bind fun ars ρ2 => match gather ars ρ2 with
          | none => .bad
          | some (ts, ρ3) => match cf (leaf :: ts) with
            | .ret t (leaf' :: ts') => .ok t ((scatter ars ts' ρ3).set ip.1 (some (root.set ip.2 leaf')))
            | .exc e (leaf' :: ts') => .exc e ((scatter ars ts' ρ3).set ip.1 (some (root.set ip.2 leaf')))
            | _ => .bad) (ρ.set ip.1 none)
      else .bad
    | none => .bad
  | _ => .bad
theorem fMethP_ok {cn : Nat} {fp : M (Nat × List Nat)} {σ : L2.St} {H : Hp} {Q : VK} (h : SEr X c (fMethP cn m cf fp fa) σ H Q) : SBr X c fp σ H fun x H1 => ∃ a dx fs, x = .ref a ∧ H1 a = some (.ins (c.ct cn) dx fs) ∧ fs.lookup m = none ∧
    SMr X c fa σ H1 fun vs H2 => spF (tab X c) cf (x :: vs) H2 Q (fun cls d H' => c.X cls d σ H') := by
  obtain ⟨ρ, R, I, P⟩ := h
  refine sb_then I P fun ip ρA H1 m1 w1 P1 => ?_
  split at P1
  · rename_i rt e1
    obtain ⟨root, er1, ert⟩ := erE_some e1
    subst ert
    rw [er_aget] at P1
    cases el : aget root ip.2 with
    | none => rw [el] at P1; exact P1.elim
    | some leaf =>
      rw [el] at P1
      simp only [Option.map_some] at P1
      split at P1
      · rename_i hcond
        simp only [Bool.and_eq_true] at hcond
        obtain ⟨hrc, hpo⟩ := hcond
        have w2 := w1.take er1
        obtain ⟨w3, ol⟩ := w2.focus el
        obtain ⟨a, dx, fs, q1, q2, q3⟩ := recv_ok ol hrc
        refine ⟨root, leaf, er1, el, a, dx, fs, q1, q2, q3, ?_⟩
        have I3 : SI X c σ H1 (erE (ρA.set ip.1 none)) (leaf :: aset root ip.2 (.hole (val leaf)) :: R) := ⟨_, rfl, m1.unset, w3.perm (by
          refine (List.perm_middle).trans (List.Perm.cons _ ?_)
          exact List.perm_middle)⟩
        rw [erE_set] at I3
        have hlt : ip.1 < ρA.length := (List.getElem?_eq_some_iff.mp er1).1
        -- putting back
        have back : ∀ (ρB : AEnv) (leaf' : A) (H' : Hp) (R' : List A), Mat ρB σ → val leaf' = val leaf → W (tab X c) H' (leaf' :: aset root ip.2 (.hole (val leaf)) :: (slots ρB ++ R')) →
            SI X c σ H' ((erE ρB).set ip.1 (some ((er root).set ip.2 (er leaf')))) R' := by
          intro ρB leaf' H' R' mB ev w
          obtain ⟨w4, v4⟩ := W.unfocus el w ev (.inr hpo)
          have hlB : ip.1 < ρB.length := by rw [mB.len, ← m1.len]; exact hlt
          refine ⟨ρB.set ip.1 (some (aset root ip.2 leaf')), by rw [erE_set, Option.map_some, er_aset], mB.set fun _ => by rw [v4]; exact m1.at_ _ _ er1, ?_⟩
          exact w4.store hlB
        refine ⟨_, _, I3, (Post.bind.mp P1).mono (fun H5 ρ5 i => ?_) fun ars ρ5 q5 => ?_⟩
        · exact i.drop.drop
        intro rs H5 e5 I5 vs5 av5
        obtain ⟨ρB, eB, mB, wB⟩ := I5
        subst eB
        split at q5
        · exact q5.elim
        · rename_i ts ρ3 g
          have wB' : W (tab X c) H5 (slots ρB ++ (rs ++ (leaf :: aset root ip.2 (.hole (val leaf)) :: R))) := wB
          obtain ⟨xs, ρC, i1, i2, i3, i4, i5⟩ := gather_ok mB wB' e5 av5 g
          refine ⟨leaf :: xs, aset root ip.2 (.hole (val leaf)) :: (slots ρC ++ R), i5.perm ?_, by rw [List.map_cons, i4], ?_⟩
          · rw [List.cons_append]
            refine List.Perm.trans ?_ (List.Perm.append_left xs (List.perm_middle (l₁ := slots ρC)).symm)
            refine List.Perm.trans ?_ (List.perm_middle).symm
            refine List.Perm.cons _ (List.Perm.append_left xs ?_)
            exact List.perm_middle.symm
          · rw [erL, i1]
            split at q5
            · rename_i t leaf' ts' ec
              rw [ec]
              intro r ys H' er2 ey ev w'
              cases ys with
              | nil => cases ey
              | cons y ys =>
                rw [erL] at ey
                obtain ⟨ey1, ey2⟩ := List.cons.inj ey
                rw [List.map_cons] at ev
                obtain ⟨ev1, ev2⟩ := List.cons.inj ev
                have w2 : W (tab X c) H' (ys ++ (slots ρC ++ (y :: aset root ip.2 (.hole (val leaf)) :: r :: R))) := w'.perm (perm_of fun f g h1 h2 h3 => by simp only [List.cons_append, h1, h2]; omega)
                obtain ⟨ρA2, j1, j2, j3⟩ := scatter_ok i3 av5 ev2 w2
                have fin := back ρA2 y H' (r :: R) j2 ev1 (j3.perm (by
                  refine List.Perm.trans ?_ List.perm_middle.symm
                  refine List.Perm.cons _ ?_
                  exact List.perm_middle.symm))
                rw [j1, ey2, i2, ey1] at fin
                exact q5 r H' er2 fin
            · rename_i e leaf' ts' ec
              rw [ec]
              intro ys H' cls d ey ev w' ex
              cases ys with
              | nil => cases ey
              | cons y ys =>
                rw [erL] at ey
                obtain ⟨ey1, ey2⟩ := List.cons.inj ey
                rw [List.map_cons] at ev
                obtain ⟨ev1, ev2⟩ := List.cons.inj ev
                have w2 : W (tab X c) H' (ys ++ (slots ρC ++ (y :: aset root ip.2 (.hole (val leaf)) :: R))) := w'.perm (perm_of fun f g h1 h2 h3 => by simp only [List.cons_append, h1, h2]; omega)
                obtain ⟨ρA2, j1, j2, j3⟩ := scatter_ok i3 av5 ev2 w2
                have fin := back ρA2 y H' R j2 ev1 (j3.perm (by
                  refine List.Perm.trans ?_ List.perm_middle.symm
                  refine List.Perm.cons _ ?_
                  exact List.perm_middle.symm))
                rw [j1, ey2, i2, ey1] at fin
                exact q5 H' cls d fin ex
            · exact q5.elim
      · exact P1.elim
  · exact P1.elim
section
variable {pl : Sem Bool} {cn : Nat} {fp : M (Nat × List Nat)} (hc : Cls X.K (c.ct cn)) (hm : Meth X.K (c.ct cn) m f) (F : FnOk X.prog X.w X.K X.mg X.base CX k f fd ps (spF (tab X c) cf)) (hr : Room k X.A) (hx : Lets X c CX) (hb : Binds X.K fd ps [])
include hc hm F hr hx hb
theorem se_methP (ho : SB X c o fp) (ha : SM X c (e :: es) fa)
    (hst : starEach (e :: es) X.env = (false, eval e X.env) :: starEach es X.env := by rfl) (hpl : (backTo pos (starEach es X.env)).any (·.1) = false := by rfl)
    (ht : eval (.Call (.Attribute o m apos) (e :: es) [] pos) X.env = (do
      let ov ← eval o X.env
      standAt apos.atName
      let (f, first) ← holding [ov] (getMethod ov m pl)
      callWith pos f first (backTo pos (starEach (e :: es) X.env)) (backToKw pos (keywordEach [] X.env))) := by rfl) :
    SE X c (.Call (.Attribute o m apos) (e :: es) [] pos) (fMethP cn m cf fp fa) :=
  pe_imp (pe_methSD (E := fun σ cls d H' => c.X cls d σ H') ho hc hm F hr hb hx ha hst hpl ht) fun σ H Q h => fMethP_ok h
theorem se_methP0 (ho : SB X c o fp)
    (ht : eval (.Call (.Attribute o m apos) [] [] pos) X.env = (do
      let ov ← eval o X.env
      standAt apos.atName
      let (f, first) ← holding [ov] (getMethod ov m pl)
      callWith pos f first (backTo pos (starEach [] X.env)) (backToKw pos (keywordEach [] X.env))) := by rfl) :
    SE X c (.Call (.Attribute o m apos) [] [] pos) (fMethP cn m cf fp fANil) :=
  pe_imp (pe_methSD0 (E := fun σ cls d H' => c.X cls d σ H') ho hc hm F hr hb hx ht) fun σ H Q h => by
    obtain ⟨ρ, R, I, P⟩ := fMethP_ok h
    refine ⟨ρ, R, I, P.mono (fun _ _ i => i) fun ip ρ1 q ρA H1 e m1 w1 => ?_⟩
    obtain ⟨root, leaf, g1, g2, a, dx, fs, q1, q2, q3, ρ2, R2, I2, P2⟩ := q ρA H1 e m1 w1
    exact ⟨root, leaf, g1, g2, a, dx, fs, q1, q2, q3, P2 [] H1 rfl I2 [] .nil⟩
end
end
end Tr
end

section
set_option Elab.async false
set_option linter.all false
set_option autoImplicit false
set_option maxRecDepth 100000
/-! Statements, and the rule for a def. -/
namespace Tr
open PySem PySem.Spec PyProof.Rows L2

/-- what a statement comes to -/
inductive SO where
  | nx (ρ : Env) | ret (t : T) (ρ : Env) | brk (ρ : Env) | ct (ρ : Env) | exc (e : Ex) (ρ : Env) | bad
abbrev FS := Env → SO
structure Keep (c : Cu) (σ σ' : L2.St) : Prop where
  len : σ'.length = σ.length
  at_ : ∀ (i : Nat), c.pr i = true → σ'[i]? = σ[i]?
theorem Keep.refl {c : Cu} {σ : L2.St} : Keep c σ σ := ⟨rfl, fun _ _ => rfl⟩
theorem Keep.trans {c : Cu} {σ σ' σ'' : L2.St} (a : Keep c σ σ') (b : Keep c σ' σ'') : Keep c σ σ'' := ⟨b.len.trans a.len, fun i h => (b.at_ i h).trans (a.at_ i h)⟩
theorem Keep.set {c : Cu} {σ : L2.St} {i : Nat} {x : Option V} (h : c.pr i = false) : Keep c σ (σ.set i x) := ⟨List.length_set, fun j hj => by
  rw [List.getElem?_set_ne]
  rintro rfl
  rw [h] at hj; cases hj⟩
def PostS (X : Cx) (c : Cu) (σ : L2.St) (R : List A) (D : Ends) : SO → Prop
  | .nx ρ => ∀ σ' H, SI X c σ' H ρ R → Keep c σ σ' → D.nx σ' H
  | .ret t ρ => ∀ r σ' H, er r = t → SI X c σ' H ρ (r :: R) → Keep c σ σ' → D.rt (val r) H
  | .brk ρ => ∀ σ' H, SI X c σ' H ρ R → Keep c σ σ' → D.bk σ' H
  | .ct ρ => ∀ σ' H, SI X c σ' H ρ R → Keep c σ σ' → D.ct σ' H
  | .exc e ρ => ∀ σ' H cls d, SI X c σ' H ρ R → Keep c σ σ' → ExOk (tab X c) H e cls d → c.X cls d σ' H
  | .bad => False
def SSr (X : Cx) (c : Cu) (f : FS) : TS := fun D σ H => ∃ ρ R, SI X c σ H ρ R ∧ PostS X c σ R D (f ρ)
def SS (X : Cx) (c : Cu) (st : Stmt) (f : FS) : Prop := PS X st (SSr X c f)
def SSs (X : Cx) (c : Cu) (st : List Stmt) (f : FS) : Prop := PSs X st (SSr X c f)
section
variable {X : Cx} {c : Cu} {σ σ' : L2.St} {R : List A} {D : Ends} {x : SO}
theorem PostS.shift (h : PostS X c σ R D x) (k : Keep c σ σ') : PostS X c σ' R D x := by
  cases x with
  | nx ρ => exact fun σ2 H I k2 => h σ2 H I (k.trans k2)
  | ret t ρ => exact fun r σ2 H e I k2 => h r σ2 H e I (k.trans k2)
  | brk ρ => exact fun σ2 H I k2 => h σ2 H I (k.trans k2)
  | ct ρ => exact fun σ2 H I k2 => h σ2 H I (k.trans k2)
  | exc e ρ => exact fun σ2 H cls d I k2 ex => h σ2 H cls d I (k.trans k2) ex
  | bad => exact h
theorem PostS.moreL {rs : List A} (h : PostS X c σ R D x) : PostS X c σ (rs ++ R) D x := by
  cases x with
  | nx ρ => exact fun σ2 H I k2 => h σ2 H I.dropL k2
  | ret t ρ => exact fun r σ2 H e I k2 => h r σ2 H e (SI.dropL (xs := rs) (I.perm (List.perm_middle.trans (.refl _)))) k2
  | brk ρ => exact fun σ2 H I k2 => h σ2 H I.dropL k2
  | ct ρ => exact fun σ2 H I k2 => h σ2 H I.dropL k2
  | exc e ρ => exact fun σ2 H cls d I k2 ex => h σ2 H cls d I.dropL k2 ex
  | bad => exact h
theorem PostS.more {r : A} (h : PostS X c σ R D x) : PostS X c σ (r :: R) D x := PostS.moreL (rs := [r]) h
end
/-- an expression, then what follows -/
def sBind {α : Type} (f : M α) (k : α → FS) : FS := fun ρ => match f ρ with
  | .ok a ρ' => k a ρ'
  | .exc e ρ' => .exc e ρ'
  | .bad => .bad
theorem sBind_post {α : Type} {X : Cx} {c : Cu} {σ : L2.St} {R : List A} {D : Ends} {f : M α} {k : α → FS} {ρ : Env} (h : PostS X c σ R D (sBind f k ρ)) : Post X c σ R (fun a ρ' => PostS X c σ R D (k a ρ')) (f ρ) := by
  unfold sBind at h
  split at h
  · rename_i e; rw [e]; exact h
  · rename_i ex ρ' e; rw [e]; exact fun H cls d I E => h σ H cls d I .refl E
  · exact h.elim
section
variable {X : Cx} {c : Cu} {σ : L2.St} {H : Hp} {ρ : Env} {R : List A} {D : Ends}
theorem ss_then {f : M T} {k : T → FS} {Q : VK} (I : SI X c σ H ρ R) (h : PostS X c σ R D (sBind f k ρ)) (hk : ∀ r H' ρ', SI X c σ H' ρ' (r :: R) → PostS X c σ R D (k (er r) ρ') → Q (val r) H') : SEr X c f σ H Q :=
  ⟨ρ, R, I, (sBind_post h).mono (fun _ _ i => i) fun t ρ' q r H' e I' => hk r H' ρ' I' (by rw [e]; exact q)⟩
theorem ssL_then {f : M (List T)} {k : List T → FS} {Q : List V → Hp → Prop} (I : SI X c σ H ρ R) (h : PostS X c σ R D (sBind f k ρ)) (hk : ∀ rs H' ρ', SI X c σ H' ρ' (rs ++ R) → PostS X c σ R D (k (erL rs) ρ') → Q (rs.map val) H') : SLr X c f σ H Q :=
  ⟨ρ, R, I, (sBind_post h).mono (fun _ _ i => i) fun t ρ' q r H' e I' => hk r H' ρ' I' (by rw [e]; exact q)⟩
theorem ssC_then {f : M Bool} {k : Bool → FS} {Q : Bool → Hp → Prop} (I : SI X c σ H ρ R) (h : PostS X c σ R D (sBind f k ρ)) (hk : ∀ b H' ρ', SI X c σ H' ρ' R → PostS X c σ R D (k b ρ') → Q b H') : STr X c f σ H Q :=
  ⟨ρ, R, I, (sBind_post h).mono (fun _ _ i => i) fun t ρ' q H' I' => hk t H' ρ' I' q⟩
theorem ssB_then {f : M (Nat × List Nat)} {k : Nat × List Nat → FS} {Q : VK} (I : SI X c σ H ρ R) (h : PostS X c σ R D (sBind f k ρ))
    (hk : ∀ ip ρA H', Mat ρA σ → W (tab X c) H' (slots ρA ++ R) → PostS X c σ R D (k ip (erE ρA)) → ∃ root leaf, ρA[ip.1]? = some (some root) ∧ aget root ip.2 = some leaf ∧ Q (val leaf) H') : SBr X c f σ H Q :=
  ⟨ρ, R, I, (sBind_post h).mono (fun _ _ i => i) fun ip ρ' q ρA H' e m w => hk ip ρA H' m w (by rw [e]; exact q)⟩
end

/-! ### plain statements -/
def sNext : FS := fun ρ => .nx ρ
def sSeq (f g : FS) : FS := fun ρ => match f ρ with
  | .nx ρ' => g ρ'
  | o => o
section
variable {X : Cx} {c : Cu} {st : Stmt} {rest : List Stmt} {f g : FS} {e : Expr} {fe : M T} {pos : Pos}
theorem sss_nil : SSs X c [] sNext := pss_imp pss_nil fun D σ H h => by
  obtain ⟨ρ, R, I, P⟩ := h
  exact P σ H I .refl
theorem sss_cons (h1 : SS X c st f) (h2 : SSs X c rest g) : SSs X c (st :: rest) (sSeq f g) := pss_imp (pss_cons h1 h2) fun D σ H h => by
  obtain ⟨ρ, R, I, P⟩ := h
  refine ⟨ρ, R, I, ?_⟩
  unfold sSeq at P
  split at P
  · rename_i ρ' e
    rw [e]
    exact fun σ' H' I' k => ⟨ρ', R, I', P.shift k⟩
  · rename_i hn
    cases hf : f ρ with
    | nx ρ' => exact absurd hf (hn ρ')
    | ret t ρ' => rw [hf] at P; exact P
    | brk ρ' => rw [hf] at P; exact P
    | ct ρ' => rw [hf] at P; exact P
    | exc e ρ' => rw [hf] at P; exact P
    | bad => rw [hf] at P; exact P
theorem sss_one (h1 : SS X c st f) : SSs X c [st] f := pss_imp (pss_one h1) fun D σ H h => h
theorem ss_pass : SS X c (.Pass pos) sNext := ps_imp ps_pass fun D σ H h => by
  obtain ⟨ρ, R, I, P⟩ := h
  exact P σ H I .refl
def sBreak : FS := fun ρ => .brk ρ
def sCont : FS := fun ρ => .ct ρ
theorem ss_break : SS X c (.Break pos) sBreak := ps_imp ps_break fun D σ H h => by
  obtain ⟨ρ, R, I, P⟩ := h
  exact P σ H I .refl
theorem ss_continue : SS X c (.Continue pos) sCont := ps_imp ps_continue fun D σ H h => by
  obtain ⟨ρ, R, I, P⟩ := h
  exact P σ H I .refl
def sBad : FS := fun _ => .bad
theorem ss_never : SS X c st sBad := ps_imp ps_never fun D σ H h => by
  obtain ⟨ρ, R, I, P⟩ := h
  exact P
theorem sss_never {sts : List Stmt} : SSs X c sts sBad := pss_imp pss_never fun D σ H h => by
  obtain ⟨ρ, R, I, P⟩ := h
  exact P
def sExpr (fe : M T) : FS := sBind fe fun _ ρ => .nx ρ
theorem ss_expr (he : SE X c e fe) (hs : swapsWith e none pos.line X.env = pure false := by rfl) : SS X c (.Expr e pos) (sExpr fe) := ps_imp (ps_expr he hs) fun D σ H h => by
  obtain ⟨ρ, R, I, P⟩ := h
  exact ss_then I P fun r H' ρ' I' q => q σ H' I'.drop .refl
def sRet (fe : M T) : FS := sBind fe fun t ρ => .ret t ρ
theorem ss_ret (he : SE X c e fe) : SS X c (.Return (some e) pos) (sRet fe) := ps_imp (ps_ret he) fun D σ H h => by
  obtain ⟨ρ, R, I, P⟩ := h
  exact ss_then I P fun r H' ρ' I' q => q r σ H' rfl I' .refl
def sRetN : FS := fun ρ => .ret .non ρ
theorem ss_retN : SS X c (.Return none pos) sRetN := ps_imp ps_retN fun D σ H h => by
  obtain ⟨ρ, R, I, P⟩ := h
  exact P .non σ H rfl (I.imp fun S w => w.non) .refl
def sIf (fc : M Bool) (f g : FS) : FS := sBind fc fun b => if b then f else g
theorem ss_if {cd : Expr} {a b : List Stmt} {fc : M Bool} (hc : SC X c cd fc) (ha : SSs X c a f) (hb : SSs X c b g) : SS X c (.If cd a b pos) (sIf fc f g) := ps_imp (ps_if hc ha hb) fun D σ H h => by
  obtain ⟨ρ, R, I, P⟩ := h
  refine ssC_then I P fun k H' ρ' I' q => ?_
  cases k with
  | true => exact ⟨ρ', R, I', q⟩
  | false => exact ⟨ρ', R, I', q⟩

/-! ### targets -/
abbrev FG := T → M Unit
def PostG (X : Cx) (c : Cu) (σ : L2.St) (R : List A) (Q : L2.St → Hp → Prop) : Rs Unit → Prop
  | .ok _ ρ => ∀ σ' H, SI X c σ' H ρ R → Keep c σ σ' → Q σ' H
  | _ => False
def SGr (X : Cx) (c : Cu) (g : FG) : TG := fun v σ H Q => ∃ r ρ R, val r = v ∧ SI X c σ H ρ (r :: R) ∧ PostG X c σ R Q (g (er r) ρ)
def SG (X : Cx) (c : Cu) (tg : Expr) (g : FG) : Prop := PG X tg (SGr X c g)
theorem pg_imp {tg : Expr} {t t' : TG} (h : PG X tg t) (i : ∀ v σ H Q, t' v σ H Q → t v σ H Q) : PG X tg t' := ⟨fun pins s σ H v u Q I r q => h.run pins s σ H v u Q I r (i v σ H Q q)⟩
theorem SI.setv {σ : L2.St} {H : Hp} {ρ : Env} {R : List A} {r : A} (I : SI X c σ H ρ (r :: R)) (i : Nat) : SI X c (σ.set i (some (val r))) H (ρ.set i (some (er r))) R := by
  obtain ⟨ρA, e, m, w⟩ := I
  subst e
  refine ⟨ρA.set i (some r), by rw [erE_set]; rfl, m.store, ?_⟩
  have w1 := w.mid
  by_cases hlt : i < ρA.length
  · exact w1.store hlt
  · rw [List.set_eq_of_length_le (by omega)]
    exact w1.drop
def gSet (i : Nat) : FG := fun t ρ => .ok () (ρ.set i (some t))
theorem sg_name (i : Nat) {x : Str} (hN : X.N.Nodup) (hp : c.pr i = false) (hi : X.N[i]? = some x := by rfl) (hx : Loc X.env.scope x := by first | exact .inl rfl | exact .inr rfl) (hf : X.fn x = true ∨ X.env.scope.names.lookup x = some .local := by first | exact .inl rfl | exact .inr rfl | assumption) : SG X c (.Name x pos) (gSet i) :=
  pg_imp (pg_name hN hi hx hf) fun v σ H Q h => by
    obtain ⟨r, ρ, R, rfl, I, P⟩ := h
    exact P _ H (I.setv i) (.set hp)
abbrev FGs := List T → M Unit
def SGsr (X : Cx) (c : Cu) (g : FGs) : TGs := fun vs σ H Q => ∃ rs ρ R, rs.map val = vs ∧ SI X c σ H ρ (rs ++ R) ∧ PostG X c σ R Q (g (erL rs) ρ)
def SGs (X : Cx) (c : Cu) (tg : List Expr) (g : FGs) : Prop := PGs X tg (SGsr X c g)
theorem pgs_imp {tg : List Expr} {t t' : TGs} (h : PGs X tg t) (i : ∀ v σ H Q, t' v σ H Q → t v σ H Q) : PGs X tg t' := ⟨fun pins s σ H v u Q I r q => h.run pins s σ H v u Q I r (i v σ H Q q)⟩
def gsNil : FGs := fun ts ρ => match ts with
  | [] => .ok () ρ
  | _ => .bad
def gsCons (g : FG) (gs : FGs) : FGs := fun ts ρ => match ts with
  | t :: ts => match g t ρ with
    | .ok _ ρ' => gs ts ρ'
    | _ => .bad
  | [] => .bad
theorem sgs_nil : SGs X c [] gsNil := pgs_imp pgs_nil fun v σ H Q h => by
  obtain ⟨rs, ρ, R, rfl, I, P⟩ := h
  cases rs with
  | nil => exact ⟨rfl, P σ H I .refl⟩
  | cons r rs => exact P.elim
theorem PostG.shift {σ σ' : L2.St} {R : List A} {Q : L2.St → Hp → Prop} {x : Rs Unit} (h : PostG X c σ R Q x) (k : Keep c σ σ') : PostG X c σ' R Q x := by
  cases x with
  | ok a ρ => exact fun σ2 H I k2 => h σ2 H I (k.trans k2)
  | _ => exact h
theorem sgs_cons {es : List Expr} {g : FG} {gs : FGs} (h1 : SG X c e g) (h2 : SGs X c es gs) (hs : (assignEach (e :: es) X.env).map (·.2) = assign e X.env :: (assignEach es X.env).map (·.2) := by rfl) : SGs X c (e :: es) (gsCons g gs) :=
  pgs_imp (pgs_cons h1 h2 hs) fun v σ H Q h => by
    obtain ⟨rs, ρ, R, rfl, I, P⟩ := h
    cases rs with
    | nil => exact P.elim
    | cons r rs =>
      refine ⟨val r, rs.map val, rfl, r, ρ, rs ++ R, rfl, I, ?_⟩
      rw [erL, gsCons] at P
      split at P
      · rename_i ρ' e'
        rw [e']
        exact fun σ' H' I' k => ⟨rs, ρ', R, rfl, I', P.shift k⟩
      · exact P.elim
/-- a, b = a tuple -/
def gTupT (n : Nat) (gs : FGs) : FG := fun t => match t with
  | .nd .tup xs => if xs.length = n then gs xs else fun _ => .bad
  | _ => fun _ => .bad
theorem sg_tup {es : List Expr} {k : Nat} {gs : FGs} {n : Nat} (hc : X.calm = true) (h : SGs X c es gs)
    (hn : (assignEach es X.env).length = n := by rfl) (hst : (assignEach es X.env).findIdx? (·.1) = none := by rfl) : SG X c (.Tuple es k pos) (gTupT n gs) := pg_imp (pg_tup hc h hn hst) fun v σ H Q h => by
  obtain ⟨r, ρ, R, rfl, I, P⟩ := h
  cases r with
  | nd kk w a dx xs =>
    cases kk with
    | tup =>
      rw [er] at P
      simp only [gTupT] at P
      rw [len_erL] at P
      split at P
      · rename_i hl
        obtain ⟨ρA, e, m, w1⟩ := id I
        have ok := (okL_append.mp w1.ok).2.1
        refine ⟨a, xs.map val, rfl, ?_, by rw [List.length_map]; exact hl, xs, ρ, R, rfl, I.imp fun S w => ?_, P⟩
        · cases w with
          | true => exact ok.1 H
          | false => exact .inl (.inl ok.1)
        · have w2 := W.open w
          rw [List.append_assoc]
          exact w2
      · exact P.elim
    | _ => exact P.elim
  | _ => exact P.elim
/-- target = value -/
def sAsg (fe : M T) (g : FG) : FS := sBind fe fun t ρ => match g t ρ with
  | .ok _ ρ' => .nx ρ'
  | _ => .bad
theorem ss_asg {tg : Expr} {g : FG} (he : SE X c e fe) (hg : SG X c tg g) (hs : swapsWithSole [tg] e pos.line X.env = pure false := by rfl) (hw : swappedStores [tg] e X.env = pure none := by rfl)
    (h1 : (assignEach [tg] X.env).map (·.2) = [assign tg X.env] := by rfl) : SS X c (.Assign [tg] e pos) (sAsg fe g) := ps_imp (ps_asg he hg hs hw h1) fun D σ H h => by
  obtain ⟨ρ, R, I, P⟩ := h
  refine ss_then I P fun r H' ρ' I' q => ?_
  refine ⟨r, ρ', R, rfl, I', ?_⟩
  split at q
  · rename_i ρ2 e2
    rw [e2]
    exact q
  · exact q.elim
theorem ss_set (i : Nat) {x : Str} {pos' : Pos} (hN : X.N.Nodup) (hp : c.pr i = false) (he : SE X c e fe) (hi : X.N[i]? = some x := by rfl) (hx : Loc X.env.scope x := by first | exact .inl rfl | exact .inr rfl) (hs : swapsWith e (some (.Name x pos')) pos.line X.env = pure false := by rfl)
    (hf : X.fn x = true ∨ X.env.scope.names.lookup x = some .local := by first | exact .inl rfl | exact .inr rfl | assumption) : SS X c (.Assign [.Name x pos'] e pos) (sAsg fe (gSet i)) := ps_imp (ps_set hN hi hx he hs hf) fun D σ H h => by
  obtain ⟨ρ, R, I, P⟩ := h
  refine ss_then I P fun r H' ρ' I' q => ?_
  exact q _ H' (I'.setv i) (.set hp)

/-! ### while -/
def sWhile : Nat → M Bool → FS → FS
  | 0, _, _ => fun _ => .bad
  | n + 1, fc, body => sBind fc fun b => if b then (fun ρ => match body ρ with
      | .nx ρ' => sWhile n fc body ρ'
      | .ct ρ' => sWhile n fc body ρ'
      | .brk ρ' => .nx ρ'
      | o => o) else fun ρ => .nx ρ
theorem ss_while {cd : Expr} {body : List Stmt} {fc : M Bool} (n : Nat) (hp : PassesOwn (model X.prog X.w) X.A X.env X.xe) (hc : SC X c cd fc) (hb : SSs X c body f) : SS X c (.While cd body [] pos) (sWhile n fc f) := ps_imp (ps_while hp hc hb) fun D σ H h => by
  obtain ⟨ρ, R, I, P⟩ := h
  refine ⟨fun m σ' H' => Keep c σ σ' ∧ ∃ ρ', SI X c σ' H' ρ' R ∧ PostS X c σ' R D (sWhile m fc f ρ'), ⟨n, .refl, ρ, I, P⟩, fun m σ1 H1 hw => ?_⟩
  obtain ⟨k1, ρ1, I1, P1⟩ := hw
  cases m with
  | zero => exact P1.elim
  | succ m =>
    rw [sWhile] at P1
    refine ssC_then I1 P1 fun b H2 ρ2 I2 q => ?_
    cases b with
    | false => exact q σ1 H2 I2 .refl
    | true =>
      rw [if_pos rfl]
      refine ⟨fun σ' H' => Keep c σ σ' ∧ ∃ ρ', SI X c σ' H' ρ' R ∧ PostS X c σ' R D (sWhile m fc f ρ'), fun σ' H' hh => ⟨m, Nat.lt_succ_self m, hh⟩, ρ2, R, I2, ?_⟩
      simp only [if_true] at q
      cases hf : f ρ2 with
      | nx ρ' => rw [hf] at q; exact fun σ' H' I' k' => ⟨k1.trans k', ρ', I', q.shift k'⟩
      | ct ρ' => rw [hf] at q; exact fun σ' H' I' k' => ⟨k1.trans k', ρ', I', q.shift k'⟩
      | brk ρ' => rw [hf] at q; exact fun σ' H' I' k' => q σ' H' I' k'
      | ret t ρ' => rw [hf] at q; exact q
      | exc e ρ' => rw [hf] at q; exact q
      | bad => rw [hf] at q; exact q
end

/-! ### what a loop walks -/
def Enum (B : Tab) (J : It) (items : List T) (src : List A) : Prop := ∀ (i : Nat) (H : Hp) (R : List A), W B H (src ++ R) →
  (∀ t, items[i]? = some t → J.go i H ∧ ∀ x H', J.yld i H x H' → ∃ r, er r = t ∧ val r = x ∧ W B H' (r :: (src ++ R))) ∧ (items.length ≤ i → J.stop i H)
def KI (X : Cx) (c : Cu) (σ : L2.St) (R : List A) (Q : It → Hp → Prop) : List T → Env → Prop := fun items ρ => ∀ H J src, SI X c σ H ρ (src ++ R) → Enum (tab X c) J items src → Q J H
def SIr (X : Cx) (c : Cu) (f : M (List T)) : TI := fun σ H Q => ∃ ρ R, SI X c σ H ρ R ∧ Post X c σ R (KI X c σ R Q) (f ρ)
def SIt (X : Cx) (c : Cu) (tg e : Expr) (f : M (List T)) : Prop := PI X tg e (SIr X c f)
theorem pi_imp {X : Cx} {tg e : Expr} {t t' : TI} (h : PI X tg e t) (i : ∀ σ H Q, t' σ H Q → t σ H Q) : PI X tg e t' := ⟨fun pins s σ H R I q => h.run pins s σ H R I (i σ H R q)⟩
def sForGo (g : FG) (body : FS) : List T → FS
  | [] => fun ρ => .nx ρ
  | t :: ts => fun ρ => match g t ρ with
    | .ok _ ρ1 => match body ρ1 with
      | .nx ρ2 => sForGo g body ts ρ2
      | .ct ρ2 => sForGo g body ts ρ2
      | .brk ρ2 => .nx ρ2
      | o => o
    | _ => .bad
def sFor (fi : M (List T)) (g : FG) (body : FS) : FS := sBind fi fun items => sForGo g body items
section
variable {X : Cx} {c : Cu} {f : FS} {e tg : Expr} {fi : M (List T)} {g : FG} {pos : Pos}
theorem ss_for {body : List Stmt} (hp : PassesOwn (model X.prog X.w) X.A X.env X.xe) (hc : X.calm = true) (hi : SIt X c tg e fi) (hg : SG X c tg g) (hb : SSs X c body f) (hs : ∀ x, foldedSetIterable e X.env x = pure x := by intro _; rfl) : SS X c (.For tg e body [] pos) (sFor fi g f) := ps_imp (ps_for hp hc hi hg hb hs) fun D σ H h => by
  obtain ⟨ρ, R, I, P⟩ := h
  refine ⟨ρ, R, I, (sBind_post P).mono (fun _ _ i => i) fun items ρ0 P0 H0 J src I0 en => ?_⟩
  refine ⟨fun i m σ' H' => m = items.length - i ∧ i ≤ items.length ∧ Keep c σ σ' ∧ ∃ ρ', SI X c σ' H' ρ' (src ++ R) ∧ PostS X c σ' R D (sForGo g f (items.drop i) ρ'), ⟨_, rfl, Nat.zero_le _, .refl, ρ0, I0, P0⟩, fun i m σ1 H1 hw => ?_⟩
  obtain ⟨rfl, hi, k1, ρ1, I1, P1⟩ := hw
  obtain ⟨ρA, eA, mA, wA⟩ := id I1
  have wA' : W (tab X c) H1 (src ++ (R ++ slots ρA)) := wA.perm (perm_of fun f g h1 h2 h3 => by simp only [h1, h2]; omega)
  obtain ⟨en1, en2⟩ := en i H1 _ wA'
  by_cases hlt : i < items.length
  · have ei : items[i]? = some items[i] := List.getElem?_eq_getElem hlt
    obtain ⟨go, yl⟩ := en1 _ ei
    refine .inr ⟨go, fun σ' H' => Keep c σ σ' ∧ ∃ ρ', SI X c σ' H' ρ' (src ++ R) ∧ PostS X c σ' R D (sForGo g f (items.drop (i + 1)) ρ'), fun σ' H' hh => ⟨items.length - (i + 1), by omega, rfl, hlt, hh⟩, fun x H2 hy => ?_⟩
    obtain ⟨r, er1, rfl, w2⟩ := yl x H2 hy
    have I2 : SI X c σ1 H2 ρ1 (r :: (src ++ R)) := ⟨ρA, eA, mA, w2.perm (perm_of fun f g h1 h2 h3 => by simp only [h1, h2]; omega)⟩
    refine ⟨r, ρ1, src ++ R, rfl, I2, ?_⟩
    rw [List.drop_eq_getElem_cons hlt, sForGo] at P1
    rw [er1]
    dsimp only at P1
    cases hgx : g items[i] ρ1 with
    | ok u ρ3 =>
      rw [hgx] at P1
      dsimp only at P1
      intro σ3 H3 I3 k3
      refine ⟨ρ3, src ++ R, I3, ?_⟩
      cases hf : f ρ3 with
      | nx ρ' => rw [hf] at P1; exact fun σ' H' I' k' => ⟨k1.trans (k3.trans k'), ρ', I', P1.shift (k3.trans k')⟩
      | ct ρ' => rw [hf] at P1; exact fun σ' H' I' k' => ⟨k1.trans (k3.trans k'), ρ', I', P1.shift (k3.trans k')⟩
      | brk ρ' => rw [hf] at P1; exact fun σ' H' I' k' => P1 σ' H' I'.dropL (k3.trans k')
      | ret t ρ' => rw [hf] at P1; exact (P1.shift k3).moreL (rs := src)
      | exc e ρ' => rw [hf] at P1; exact (P1.shift k3).moreL (rs := src)
      | bad => rw [hf] at P1; exact P1.elim
    | exc e ρ' => rw [hgx] at P1; exact P1.elim
    | bad => rw [hgx] at P1; exact P1.elim
  · have ei : i = items.length := by omega
    subst ei
    refine .inl ⟨en2 (Nat.le_refl _), ?_⟩
    rw [List.drop_length] at P1
    exact P1 σ1 H1 I1.dropL .refl

/-- a frozen list or tuple is walked -/
theorem enum_seq {B : Tab} {J : It} {k : NK} {w : Bool} {a dx : Addr} {xs : List A} (hk : k.m = false) (hgo : ∀ i H x, NodeOk B H k w a dx (xs.map val) → (xs.map val)[i]? = some x → J.go i H)
    (hy : ∀ i H x H', NodeOk B H k w a dx (xs.map val) → J.yld i H x H' → H' = H ∧ (xs.map val)[i]? = some x) (hst : ∀ i H, NodeOk B H k w a dx (xs.map val) → xs.length ≤ i → J.stop i H) : Enum B J (erL xs) [.nd k w a dx xs] := by
  intro i H R w1
  have ok : Ok B H (.nd k w a dx xs) := w1.head
  have ow : own (.nd k w a dx xs) = [] := by
    rw [own, ok.2.2 hk]
    unfold ownN
    rw [hk]
    rfl
  refine ⟨fun t ht => ?_, fun h => hst i H ok.1 (by rw [len_erL] at h; exact h)⟩
  rw [erL_get] at ht
  cases ex : xs[i]? with
  | none => rw [ex] at ht; cases ht
  | some r =>
    rw [ex] at ht
    have et : er r = t := Option.some.inj ht
    have ev : (xs.map val)[i]? = some (val r) := by rw [List.getElem?_map, ex]; rfl
    refine ⟨hgo i H _ ok.1 ev, fun x H' y => ?_⟩
    obtain ⟨rfl, e2⟩ := hy i H x H' ok.1 y
    rw [ev] at e2
    refine ⟨r, et, Option.some.inj e2, ?_⟩
    have w2 : W B H' (.nd k w a dx xs :: (.nd k w a dx xs :: R)) := W.dup w1 ow
    have w3 : W B H' (xs ++ (.nd k w a dx xs :: R)) := W.open w2
    obtain ⟨l, p, _⟩ := set_perm r ex
    have w4 : W B H' (l ++ (r :: .nd k w a dx xs :: R)) := w3.perm (by
      have q := (p.append_right (.nd k w a dx xs :: R)).symm
      exact (perm_of fun f g h1 h2 h3 => by simp only [List.cons_append, h1, h2]; omega).trans q)
    exact w4.right
def seqItems : T → Option (List T)
  | .nd (.lst _) xs => some (T.fzL xs)
  | _ => none
def tupItems : T → Option (List T)
  | .nd .tup xs => some xs
  | _ => none
def fItems (fe : M T) (g : T → Option (List T)) : M (List T) := fe.bind fun t => lift (g t)
theorem sit_list {fe : M T} (h : SE X c e fe) : SIt X c tg e (fItems fe seqItems) := pi_imp (pi_list h) fun σ H Q h => by
  obtain ⟨ρ, R, I, P⟩ := h
  refine se_then I P fun r H1 ρ1 I1 P1 => ?_
  obtain ⟨items, e1, q⟩ := P1.lift
  cases r with
  | nd k w a dx xs =>
    cases k with
    | lst m =>
      obtain ⟨ρA, eA, mA, wA⟩ := id I1
      have ok : Ok (tab X c) H1 (.nd (.lst m) w a dx xs) := (okL_append.mp wA.ok).2.1
      have okf := (fz_ok ok).1
      have ef : fz (.nd (.lst m) w a dx xs) = .nd (.lst false) w a dx (if m then fzL xs else xs) := by
        cases m <;> rfl
      have ev : (if m then fzL xs else xs).map val = xs.map val := by cases m <;> simp [mval_fzL]
      have sq : ∀ H w', NodeOk (tab X c) H (.lst false) w' a dx (xs.map val) → SqL X.K H a (xs.map val) := fun H w' h => .inl (.inl h.2)
      have I2 : SI X c σ H1 ρ1 ([fz (.nd (.lst m) w a dx xs)] ++ R) := I1.imp fun S w' => W.fz w'
      refine ⟨a, rfl, ⟨xs.map val, ?_⟩, ?_⟩
      · rw [ef] at okf
        have := okf.1
        rw [ev] at this
        exact sq H1 w this
      · refine q H1 (Itl X.K a) _ I2 ?_
        have ei : items = erL (if m then fzL xs else xs) := by
          simp only [er, seqItems] at e1
          cases m with
          | true => rw [← Option.some.inj e1, if_pos rfl, erL_fz]
          | false =>
            have := Option.some.inj e1
            rw [← this, if_neg (by decide), ← erL_fz]
            have e0 : ownL xs = [] := ok.2.2 rfl
            clear this ef ev I2 okf
            -- frozen already
            have : ∀ l : List A, OkL (tab X c) H1 l → ownL l = [] → fzL l = l := by
              intro l
              induction l with
              | nil => intro _ _; rfl
              | cons y l ih =>
                intro hl ho
                rw [ownL] at ho
                obtain ⟨h1, h2⟩ := List.append_eq_nil_iff.mp ho
                rw [fzL, ih hl.2 h2]
                congr 1
                cases y with
                | nd k2 w2 a2 d2 ys =>
                  rw [fz]
                  split
                  · rename_i hk
                    rw [own] at h1
                    obtain ⟨h3, _⟩ := List.append_eq_nil_iff.mp h1
                    unfold ownN at h3
                    rw [hk, hl.1.1.w_of hk] at h3
                    simp at h3
                  · rfl
                | _ => rfl
            rw [this xs ok.2.1 e0]
        rw [ei, ef]
        refine enum_seq rfl (fun i H x h hx => ?_) (fun i H x H' h y => ?_) fun i H h hl => ?_
        · rw [ev] at h hx
          exact ⟨_, _, sq H w h, hx⟩
        · rw [ev] at h
          rw [ev]
          exact ⟨y.1, y.2 _ (sq H w h)⟩
        · rw [ev] at h
          exact ⟨_, sq H w h, by rw [← ev, List.length_map]; exact hl⟩
    | _ => cases e1
  | _ => cases e1
theorem sit_tup {fe : M T} (h : SE X c e fe) : SIt X c tg e (fItems fe tupItems) := pi_imp (pi_tup h) fun σ H Q h => by
  obtain ⟨ρ, R, I, P⟩ := h
  refine se_then I P fun r H1 ρ1 I1 P1 => ?_
  obtain ⟨items, e1, q⟩ := P1.lift
  cases r with
  | nd k w a dx xs =>
    cases k with
    | tup =>
      obtain ⟨ρA, eA, mA, wA⟩ := id I1
      have ok : Ok (tab X c) H1 (.nd .tup w a dx xs) := (okL_append.mp wA.ok).2.1
      have sq : ∀ H w', NodeOk (tab X c) H .tup w' a dx (xs.map val) → SqT X.K H a (xs.map val) := fun H w' h => by
        cases w' with
        | true => exact h H
        | false => exact .inl (.inl h)
      refine ⟨a, rfl, ⟨xs.map val, sq H1 w ok.1⟩, ?_⟩
      refine q H1 (Itt X.K a) [.nd .tup w a dx xs] I1 ?_
      have ei : items = erL xs := (Option.some.inj e1).symm
      rw [ei]
      refine enum_seq rfl (fun i H x h hx => ?_) (fun i H x H' h y => ?_) fun i H h hl => ?_
      · exact ⟨_, _, sq H w h, hx⟩
      · exact ⟨y.1, y.2 _ (sq H w h)⟩
      · exact ⟨_, sq H w h, by rw [List.length_map]; exact hl⟩
    | _ => cases e1
  | _ => cases e1
/-- range(n) -/
def rngItems : List T → Option (List T)
  | [.int n] => if -(2 ^ 62) ≤ n ∧ n < 2 ^ 62 then some ((List.range n.toNat).map fun (i : Nat) => T.int (0 + i)) else none
  | _ => none
def rngItems2 : List T → Option (List T)
  | [.int a, .int n] => if -(2 ^ 62) ≤ a ∧ a < 2 ^ 62 ∧ -(2 ^ 62) ≤ n ∧ n < 2 ^ 62 then some ((List.range (n - a).toNat).map fun (i : Nat) => T.int (a + i)) else none
  | _ => none
def fItemsL (fl : M (List T)) (g : List T → Option (List T)) : M (List T) := fl.bind fun t => lift (g t)
theorem enum_rng {B : Tab} {lo : Int} {n : Nat} : Enum B (Itr lo n) ((List.range n).map fun (i : Nat) => T.int (lo + i)) [] := by
  intro i H R w
  refine ⟨fun t ht => ?_, fun h => by
    rw [List.length_map, List.length_range] at h
    exact h⟩
  rw [List.getElem?_map] at ht
  cases e : (List.range n)[i]? with
  | none => rw [e] at ht; cases ht
  | some j =>
    rw [e] at ht
    have hj : i < n ∧ j = i := by
      obtain ⟨h1, h2⟩ := List.getElem?_eq_some_iff.mp e
      rw [List.getElem_range] at h2
      exact ⟨by simpa using h1, h2.symm⟩
    obtain ⟨hi, rfl⟩ := hj
    refine ⟨hi, fun x H' y => ?_⟩
    obtain ⟨e1, e2⟩ := y
    subst e1
    subst e2
    exact ⟨.int (lo + (j : Nat)), Option.some.inj ht, rfl, w.int⟩
theorem er_int {r : A} {i : Int} (h : er r = .int i) : r = .int i := by
  cases r with
  | int j => rw [er] at h; injection h with h; rw [h]
  | _ => cases h
theorem sit_range1 {a : Expr} {fl : M (List T)} {p : Pos} (hm : X.mg "range" = none) (ha : SL X c [a] fl) (hg : Gl X "range" := by rfl) (hs : starEach [a] X.env = [(false, eval a X.env)] := by rfl) : SIt X c tg (.Call (.Name "range" p) [a] [] pos) (fItemsL fl rngItems) :=
  pi_imp (pi_range1 hg hm ha hs) fun σ H Q h => by
    obtain ⟨ρ, R, I, P⟩ := h
    refine sl_then I P fun rs H1 ρ1 I1 P1 => ?_
    obtain ⟨items, e1, q⟩ := P1.lift
    match rs, e1, I1 with
    | [r], e1, I1 =>
      simp only [erL] at e1
      cases hr : er r with
      | int n =>
        rw [hr] at e1
        simp only [rngItems] at e1
        split at e1
        · rename_i hb
          cases e1
          have := er_int hr
          subst this
          exact ⟨n, rfl, hb.1, hb.2, q H1 _ [] I1.drop enum_rng⟩
        · cases e1
      | _ => rw [hr] at e1; cases e1
    | [], e1, _ => simp [erL, rngItems, rngItems2] at e1
    | _ :: _ :: _, e1, _ =>
      simp only [erL] at e1
      unfold rngItems at e1
      split at e1
      · rename_i h; exact absurd (congrArg List.length h) (by simp)
      · cases e1
theorem sit_range2 {a b : Expr} {fl : M (List T)} {p : Pos} (hm : X.mg "range" = none) (ha : SL X c [a, b] fl) (hg : Gl X "range" := by rfl) (hs : starEach [a, b] X.env = [(false, eval a X.env), (false, eval b X.env)] := by rfl) (hs2 : starEach [b] X.env = [(false, eval b X.env)] := by rfl) :
    SIt X c tg (.Call (.Name "range" p) [a, b] [] pos) (fItemsL fl rngItems2) :=
  pi_imp (pi_range2 hg hm ha hs hs2) fun σ H Q h => by
    obtain ⟨ρ, R, I, P⟩ := h
    refine sl_then I P fun rs H1 ρ1 I1 P1 => ?_
    obtain ⟨items, e1, q⟩ := P1.lift
    match rs, e1, I1 with
    | [r, s], e1, I1 =>
      simp only [erL] at e1
      cases hr : er r with
      | int n =>
        cases hs : er s with
        | int m =>
          rw [hr, hs] at e1
          simp only [rngItems2] at e1
          split at e1
          · rename_i hb
            cases e1
            have := er_int hr
            subst this
            have := er_int hs
            subst this
            exact ⟨n, m, rfl, hb, q H1 _ [] I1.drop.drop enum_rng⟩
          · cases e1
        | _ => rw [hr, hs] at e1; cases e1
      | _ => rw [hr] at e1; cases e1
    | [], e1, _ => simp [erL, rngItems, rngItems2] at e1
    | [_], e1, _ =>
      simp only [erL] at e1
      unfold rngItems2 at e1
      split at e1
      · rename_i h; exact absurd (congrArg List.length h) (by simp)
      · cases e1
    | _ :: _ :: _ :: _, e1, _ =>
      simp only [erL] at e1
      unfold rngItems2 at e1
      split at e1
      · rename_i h; exact absurd (congrArg List.length h) (by simp)
      · cases e1
end

/-! ### a def -/
/-- the trees of the parameters that keep their objects -/
def outs : List Bool → Env → List T
  | [], _ => []
  | b :: bs, x :: ρ => (if b then x.getD .hole else .hole) :: outs bs ρ
  | _ :: bs, [] => .hole :: outs bs []
def runF (pr : List Bool) (N : Nat) (body : FS) : CF := fun ts => if ts.length = pr.length then
  match body (ts.map some ++ List.replicate (N - ts.length) none) with
  | .nx ρ => .ret .non (outs pr ρ)
  | .ret t ρ => .ret t (outs pr ρ)
  | .exc e ρ => .exc e (outs pr ρ)
  | _ => .bad
  else .bad
theorem outs_ok {B : Tab} {H : Hp} {R : List A} : ∀ {pr : List Bool} {ρA : AEnv} {vs : List V}, pr.length = vs.length → (∀ (i : Nat) (r : A) (v : V), pr.getD i false = true → ρA[i]? = some (some r) → vs[i]? = some v → val r = v) → W B H (slots ρA ++ R) →
    ∃ ys, erL ys = outs pr (erE ρA) ∧ ys.map val = vs ∧ W B H (ys ++ R)
  | [], ρA, vs, hl, hv, w => by
    cases vs with
    | nil => exact ⟨[], rfl, rfl, w.right⟩
    | cons v vs => cases hl
  | b :: pr, [], vs, hl, hv, w => by
    cases vs with
    | nil => cases hl
    | cons v vs =>
      obtain ⟨ys, i1, i2, i3⟩ := outs_ok (pr := pr) (ρA := []) (vs := vs) (by simpa using hl) (fun i r v _ e _ => by simp at e) w
      exact ⟨.hole v :: ys, by rw [erL, i1]; rfl, by rw [List.map_cons, i2]; rfl, i3.atom (x := .hole v) rfl rfl trivial⟩
  | b :: pr, x :: ρA, vs, hl, hv, w => by
    cases vs with
    | nil => cases hl
    | cons v vs =>
      have hv' : ∀ (i : Nat) (r : A) (v : V), pr.getD i false = true → ρA[i]? = some (some r) → vs[i]? = some v → val r = v := fun i r v h1 h2 h3 => hv (i + 1) r v (by simpa using h1) (by simpa using h2) (by simpa using h3)
      cases x with
      | none =>
        obtain ⟨ys, i1, i2, i3⟩ := outs_ok (R := R) (pr := pr) (ρA := ρA) (vs := vs) (by simpa using hl) hv' w
        refine ⟨.hole v :: ys, ?_, by rw [List.map_cons, i2]; rfl, i3.atom (x := .hole v) rfl rfl trivial⟩
        rw [erL, i1]
        show _ = (if b then T.hole else .hole) :: _
        cases b <;> rfl
      | some r =>
        have w1 : W B H (r :: (slots ρA ++ R)) := w
        cases b with
        | true =>
          obtain ⟨ys, i1, i2, i3⟩ := outs_ok (R := r :: R) (pr := pr) (ρA := ρA) (vs := vs) (by simpa using hl) hv' w1.toMid
          exact ⟨r :: ys, by rw [erL, i1]; rfl, by rw [List.map_cons, i2, hv 0 r v rfl rfl rfl], i3.mid⟩
        | false =>
          obtain ⟨ys, i1, i2, i3⟩ := outs_ok (R := R) (pr := pr) (ρA := ρA) (vs := vs) (by simpa using hl) hv' w1.drop
          exact ⟨.hole v :: ys, by rw [erL, i1]; rfl, by rw [List.map_cons, i2]; rfl, i3.atom (x := .hole v) rfl rfl trivial⟩
theorem slots_map (xs : List A) (n : Nat) : slots (xs.map some ++ List.replicate n none) = xs := by
  unfold slots
  rw [List.filterMap_append, List.filterMap_map]
  have : (List.replicate n (none : Option A)).filterMap id = [] := by
    induction n with
    | zero => rfl
    | succ n ih => rw [List.replicate_succ, List.filterMap_cons]; exact ih
  rw [this, List.append_nil]
  exact List.filterMap_some
section
variable {P : Program} {w : World} {K : PySem.W.Frag} {mg : Str → Option Value} {base : Heap}
/-- the context of a def's body -/
abbrev dX (P : Program) (w : World) (K : PySem.W.Frag) (mg : Str → Option Value) (base : Heap) (N : List Str) (qual : Str) (sc : Scope) (f : Addr) (cdv : Value) (A : Around) (outer : List PySem.Env) (s : Shared) (H : Hp) (E : XK) : Cx := cxOf (L2.CX P w) P w K mg base N qual sc f cdv A outer s H E
abbrev dC (ct : Nat → Addr) (ef : Nat → List Str) (E : XK) (pr : List Bool) : Cu := ⟨ct, ef, fun cls d _ H => E cls d H, fun i => pr.getD i false⟩
/-- THE RULE for a def: its body does fs -/
theorem def_ok {ct : Nat → Addr} {ef : Nat → List Str} {x qual : Str} {st : Stmt} {f : Addr} {fd : FuncData} {N ps : List Str} {k : Nat} {pr : List Bool} {fs : FS} (F : Fun K x qual st f fd) (S : FnScope N ps (defScope st)) (hl : pr.length = ps.length)
    (hb : ∀ (cdv : Value) (A : Around) (outer : List PySem.Env) (s : Shared) (H : Hp) (E : XK), Room k (A.deeper (envOfC qual (defScope st) s.heap.objs.size f cdv)) → SSs (dX P w K mg base N qual (defScope st) f cdv A outer s H E) (dC ct ef E pr) (defBody st) fs) :
    FnOk P w K mg base (L2.CX P w) (k + 1) f fd ps (spF ⟨K, ct, ef⟩ (runF pr N.length fs)) := by
  have hlen : ∀ vs H Q E, spF ⟨K, ct, ef⟩ (runF pr N.length fs) vs H Q E → vs.length = ps.length := by
    rintro vs H Q E ⟨xs, R, w1, rfl, h⟩
    rw [List.length_map]
    rw [← hl]
    by_cases hq : xs.length = pr.length
    · exact hq
    · unfold runF at h
      rw [len_erL, if_neg hq] at h
      exact h.elim
  refine F.okX S hlen fun cdv A outer s H vs Q E hr h => ⟨_, hb cdv A outer s H E hr, ?_⟩
  have hln := hlen vs H Q E h
  obtain ⟨xs, R, w1, rfl, h⟩ := h
  rw [List.length_map] at hln
  have hN : ps.length ≤ N.length := by have := congrArg List.length S.pre; rw [List.length_take] at this; omega
  refine ⟨(erL xs).map some ++ List.replicate (N.length - (erL xs).length) none, R, ⟨xs.map some ++ List.replicate (N.length - xs.length) none, ?_, ⟨?_, ?_⟩, ?_⟩, ?_⟩
  · unfold erE
    rw [len_erL, List.map_append, List.map_map, List.map_replicate, erL_map, List.map_map]
    rfl
  · unfold L2.start
    simp
  · intro i r e
    unfold L2.start
    by_cases hi : i < xs.length
    · rw [List.getElem?_append_left (by simpa using hi), List.getElem?_map] at e
      rw [List.getElem?_append_left (by simpa using hi), List.getElem?_map, List.getElem?_map]
      cases ex : xs[i]? with
      | none => rw [ex] at e; cases e
      | some y => rw [ex] at e; cases e; rfl
    · rw [List.getElem?_append_right (by simpa using hi), List.getElem?_replicate] at e
      split at e <;> cases e
  · rw [slots_map]; exact w1
  · unfold runF at h
    rw [if_pos (by rw [len_erL, hl]; exact hln)] at h
    -- the parameters at the end
    have fin : ∀ (σ' : L2.St) (H' : Hp) (ρ' : Env) (R' : List Tr.A), SI (dX P w K mg base N qual (defScope st) f cdv A outer s H E) (dC ct ef E pr) σ' H' ρ' R' → Keep (dC ct ef E pr) (L2.start N (xs.map val)) σ' →
        ∃ ys, erL ys = outs pr ρ' ∧ ys.map val = xs.map val ∧ W ⟨K, ct, ef⟩ H' (ys ++ R') := by
      rintro σ' H' ρ' R' ⟨ρA, rfl, m, w2⟩ kp
      refine outs_ok (by rw [List.length_map, hl, hln]) (fun i r v hp e1 e2 => ?_) w2
      have e3 := m.at_ i r e1
      rw [kp.at_ i hp] at e3
      unfold L2.start at e3
      have hi : i < (xs.map val).length := (List.getElem?_eq_some_iff.mp e2).1
      rw [List.getElem?_append_left (by simpa using hi), List.getElem?_map, e2] at e3
      exact (Option.some.inj (Option.some.inj e3)).symm
    cases hf : fs ((erL xs).map some ++ List.replicate (N.length - (erL xs).length) none) with
    | nx ρ' =>
      rw [hf] at h
      intro σ' H' I kp
      obtain ⟨ys, i1, i2, i3⟩ := fin σ' H' ρ' R I kp
      exact h .non ys H' rfl i1 i2 i3.non
    | ret t ρ' =>
      rw [hf] at h
      intro r σ' H' e I kp
      obtain ⟨ys, i1, i2, i3⟩ := fin σ' H' ρ' (r :: R) I kp
      exact h r ys H' e i1 i2 i3.mid
    | exc e ρ' =>
      rw [hf] at h
      intro σ' H' cls d I kp ex
      obtain ⟨ys, i1, i2, i3⟩ := fin σ' H' ρ' R I kp
      exact h ys H' cls d i1 i2 i3 ex
    | brk ρ' => rw [hf] at h; exact h.elim
    | ct ρ' => rw [hf] at h; exact h.elim
    | bad => rw [hf] at h; exact h.elim
end
end Tr
end

section
set_option Elab.async false
set_option linter.all false
set_option autoImplicit false
set_option maxRecDepth 100000
/-! Instances made, places deeper down, what changes an object. -/
namespace Tr
open PySem PySem.Spec PyProof.Rows L2

/-! ### the first place of a thing in a list -/
def kpos {α : Type} [DecidableEq α] (k : α) : List α → Option Nat
  | [] => none
  | x :: l => if x = k then some 0 else (kpos k l).map (· + 1)
theorem kpos_some {α : Type} [DecidableEq α] {k : α} : ∀ {l : List α} {j : Nat}, kpos k l = some j → l[j]? = some k
  | [], _, h => by cases h
  | x :: l, j, h => by
    rw [kpos] at h
    split at h
    · rename_i e; cases h; simp [e]
    · cases e : kpos k l with
      | none => rw [e] at h; cases h
      | some i => rw [e] at h; cases h; simpa using kpos_some e
theorem kpos_none {α : Type} [DecidableEq α] {k : α} : ∀ {l : List α}, kpos k l = none → k ∉ l
  | [], _ => by simp
  | x :: l, h => by
    rw [kpos] at h
    split at h
    · cases h
    · rename_i hx
      cases e : kpos k l with
      | none =>
        intro q
        rcases List.mem_cons.mp q with q | q
        · exact hx q.symm
        · exact kpos_none e q
      | some i => rw [e] at h; cases h
theorem valV_zip {k : Key} : ∀ {ks : List Key} {vs : List V}, ks.length = vs.length → valV (ks.zip vs) k = (kpos k ks).bind fun j => vs[j]?
  | [], vs, _ => by simp [kpos, valV]
  | x :: ks, [], h => by cases h
  | x :: ks, v :: vs, h => by
    rw [List.zip_cons_cons, kpos]
    by_cases e : x = k
    · rw [valV_pos e, if_pos e]; rfl
    · rw [valV_neg e, if_neg e, valV_zip (ks := ks) (vs := vs) (by simpa using h)]
      cases kpos k ks <;> rfl
theorem lookup_zip {f : Str} : ∀ {ns : List Str} {vs : List V}, ns.length = vs.length → (ns.zip vs).lookup f = (kpos f ns).bind fun j => vs[j]?
  | [], vs, _ => by simp [kpos]
  | x :: ns, [], h => by cases h
  | x :: ns, v :: vs, h => by
    rw [List.zip_cons_cons, kpos, List.lookup_cons]
    by_cases e : x = f
    · subst e; simp
    · have : (f == x) = false := by simp; exact fun q => e q.symm
      rw [if_neg e, this, lookup_zip (ns := ns) (vs := vs) (by simpa using h)]
      cases kpos f ns <;> rfl
/-- put at a key: in its place or at the end -/
def kput {α β : Type} [DecidableEq α] (k : α) (v : β) (ks : List α) (vs : List β) : List α × List β := match kpos k ks with
  | some j => (ks, vs.set j v)
  | none => (ks ++ [k], vs ++ [v])
theorem kput_map {α β γ : Type} [DecidableEq α] (f : β → γ) (k : α) (v : β) (ks : List α) (vs : List β) : kput k (f v) ks (vs.map f) = ((kput k v ks vs).1, (kput k v ks vs).2.map f) := by
  unfold kput
  cases kpos k ks <;> simp [List.map_set]
theorem kput_len {α β : Type} [DecidableEq α] {k : α} {v : β} {ks : List α} {vs : List β} (h : ks.length = vs.length) : (kput k v ks vs).1.length = (kput k v ks vs).2.length := by
  unfold kput
  cases kpos k ks <;> simp [h]
theorem kput_nodup {α β : Type} [DecidableEq α] {k : α} {v : β} {ks : List α} {vs : List β} (h : ks.Nodup) : (kput k v ks vs).1.Nodup := by
  unfold kput
  cases e : kpos k ks with
  | some j => exact h
  | none =>
    refine List.nodup_append.mpr ⟨h, by simp, fun a ha b hb => ?_⟩
    simp at hb
    subst hb
    rintro rfl
    exact kpos_none e ha
theorem kput_lenle {α β : Type} [DecidableEq α] {k : α} {v : β} {ks : List α} {vs : List β} : (kput k v ks vs).1.length ≤ ks.length + 1 := by
  unfold kput
  cases kpos k ks <;> simp
theorem putK_zip {k : Key} {v : V} : ∀ {ks : List Key} {vs : List V}, ks.length = vs.length → ks.Nodup → putK (ks.zip vs) k v = (kput k v ks vs).1.zip (kput k v ks vs).2 := by
  intro ks vs hl hn
  have any_ : ∀ {ks : List Key} {vs : List V}, ks.length = vs.length → ((ks.zip vs).any fun kv => decide (kv.1 = k)) = (kpos k ks).isSome := by
    intro ks
    induction ks with
    | nil => intro vs _; rfl
    | cons x ks ih =>
      intro vs h
      cases vs with
      | nil => cases h
      | cons w vs =>
        rw [List.zip_cons_cons, List.any_cons, ih (by simpa using h), kpos]
        by_cases e : x = k
        · simp [e]
        · simp [e]
  have map_ : ∀ {ks : List Key} {vs : List V} {j : Nat}, ks.length = vs.length → ks.Nodup → kpos k ks = some j → (ks.zip vs).map (fun kv => if kv.1 = k then (kv.1, v) else kv) = ks.zip (vs.set j v) := by
    intro ks
    induction ks with
    | nil => intro vs j _ _ h; cases h
    | cons x ks ih =>
      intro vs j h hn e
      cases vs with
      | nil => cases h
      | cons w vs =>
        rw [kpos] at e
        by_cases ex : x = k
        · rw [if_pos ex] at e
          cases e
          rw [List.zip_cons_cons, List.map_cons, if_pos ex, List.set_cons_zero, List.zip_cons_cons]
          congr 1
          have hx : k ∉ ks := by rw [← ex]; exact (List.nodup_cons.mp hn).1
          clear ih h hn
          induction ks generalizing vs with
          | nil => rfl
          | cons y ks ih2 =>
            cases vs with
            | nil => rfl
            | cons u vs =>
              rw [List.zip_cons_cons, List.map_cons, if_neg (fun q => hx (by rw [← q]; exact List.mem_cons_self)), ih2 _ (fun q => hx (List.mem_cons_of_mem _ q))]
        · rw [if_neg ex] at e
          cases e2 : kpos k ks with
          | none => rw [e2] at e; cases e
          | some i =>
            rw [e2] at e
            cases e
            rw [List.zip_cons_cons, List.map_cons, if_neg ex, ih (by simpa using h) (List.nodup_cons.mp hn).2 e2, List.set_cons_succ, List.zip_cons_cons]
  unfold putK kput
  rw [any_ hl]
  cases e : kpos k ks with
  | some j => simp only [Option.isSome_some, if_true]; exact map_ hl hn e
  | none =>
    rw [if_neg (by simp)]
    rw [List.zip_append hl]
    rfl
theorem putF_zip {f : Str} {v : V} : ∀ {ns : List Str} {vs : List V}, ns.length = vs.length → putF f v (ns.zip vs) = (kput f v ns vs).1.zip (kput f v ns vs).2
  | [], [], _ => rfl
  | [], _ :: _, h => by cases h
  | _ :: _, [], h => by cases h
  | x :: ns, w :: vs, h => by
    rw [List.zip_cons_cons, putF]
    have ih := putF_zip (f := f) (v := v) (ns := ns) (vs := vs) (by simpa using h)
    unfold kput at ih ⊢
    rw [kpos]
    by_cases e : x = f
    · rw [if_pos e, if_pos e]; rfl
    · rw [if_neg e, if_neg e, ih]
      cases kpos f ns <;> rfl
/-- the children of a put: nothing but the old ones and the new -/
theorem kput_roots {B : Tab} {H : Hp} {ks : List Key} {xs R : List A} {x : A} {α : Type} [DecidableEq α] {k : α} {ns : List α} (h : W B H (xs ++ (x :: R))) : W B H ((kput k x ns xs).2 ++ R) ∧
    (∀ b ∈ ownL ((kput k x ns xs).2 ++ R), b ∈ ownL (xs ++ (x :: R))) ∧ ∀ b ∈ frzL ((kput k x ns xs).2 ++ R), b ∈ frzL (xs ++ (x :: R)) := by
  have key : ∃ l, (xs ++ (x :: R)).Perm (l ++ ((kput k x ns xs).2 ++ R)) := by
    unfold kput
    cases kpos k ns with
    | none => exact ⟨[], by simp⟩
    | some j =>
      cases e : xs[j]? with
      | none =>
        refine ⟨[x], ?_⟩
        simp only []
        rw [List.set_eq_of_length_le (List.getElem?_eq_none_iff.mp e)]
        exact perm_of fun f g h1 h2 h3 => by simp only [List.cons_append, h1, h2, h3]; omega
      | some y =>
        obtain ⟨l, p1, p2⟩ := set_perm x e
        refine ⟨[y], ?_⟩
        have q1 := p1.append_right (x :: R)
        have q2 := (p2.append_right R).symm
        refine q1.trans ?_
        refine List.Perm.trans ?_ (List.Perm.cons y q2)
        exact perm_of fun f g h1 h2 h3 => by simp only [List.cons_append, h1, h2, h3]; omega
  obtain ⟨l, p⟩ := key
  refine ⟨(h.perm p.symm).right, fun b hb => ?_, fun b hb => ?_⟩
  · obtain ⟨y, hy, hb⟩ := mem_ownL.mp hb
    exact mem_ownL.mpr ⟨y, p.mem_iff.mpr (List.mem_append_right _ hy), hb⟩
  · obtain ⟨y, hy, hb⟩ := mem_frzL.mp hb
    exact mem_frzL.mpr ⟨y, p.mem_iff.mpr (List.mem_append_right _ hy), hb⟩

/-! ### a new instance -/
def callMk (cn : Nat) (cf : CF) (ars : List AR) : M T := fun ρ => match gather ars ρ with
  | none => .bad
  | some (ts, ρ1) => match cf (.nd (.obj true cn []) [] :: ts) with
    | .ret .non (t :: ts') => match t with
      | .hole => .bad
      | _ => .ok t (scatter ars ts' ρ1)
    | .exc e (_ :: ts') => .exc e (scatter ars ts' ρ1)
    | _ => .bad
def fMake (cn : Nat) (cf : CF) (fa : M (List AR)) : M T := fa.bind fun ars => callMk cn cf ars
theorem er_hole {r : A} (h : er r ≠ .hole) : ∀ v, r ≠ .hole v := fun v e => h (by rw [e]; rfl)
theorem er_non {r : A} (h : er r = .non) : r = .non := by cases r <;> first | rfl | (cases h)
section
variable {X : Cx} {c : Cu} {σ : L2.St} {H : Hp} {Q : VK} {cf : CF} {fa : M (List AR)} {cn : Nat}
theorem callMk_ok {ars : List AR} {ρ : Env} {rs R : List A} {vs : List V} (hc : Cls X.K (c.ct cn)) (q : Post X c σ R (KE X c σ R Q) (callMk cn cf ars ρ)) (I : SI X c σ H ρ (rs ++ R)) (e : erL rs = arT ars) (av : ArV σ ars rs vs) :
    ∀ x dx, H x = none → H dx = none → dx ≠ x → spF (tab X c) cf (.ref x :: vs) (upd (upd H dx (.own x)) x (.ins (c.ct cn) dx [])) (fun v H2 => v = .non ∧ Q (.ref x) H2) (fun cls d H' => c.X cls d σ H') := by
  intro x dx hx hdx ne
  obtain ⟨ρA, eA, m, w⟩ := I
  subst eA
  unfold callMk at q
  split at q
  · exact q.elim
  · rename_i ts ρ2 g
    obtain ⟨xs, ρA', i1, i2, i3, i4, i5⟩ := gather_ok m w e av g
    have w1 : W (tab X c) (upd H dx (.own x)) (xs ++ (slots ρA' ++ R)) := i5.laid hdx
    have hx1 : (upd H dx (.own x)) x = none := by rw [upd_ne (Ne.symm ne)]; exact hx
    have w2 : W (tab X c) (upd (upd H dx (.own x)) x (.ins (c.ct cn) dx [])) (.nd (.obj true cn []) false x dx [] :: (xs ++ (slots ρA' ++ R))) :=
      W.node (xs := []) w1 hx1 ⟨rfl, rfl, hc, fun f hf => absurd hf (by simp), upd_same⟩ (fun _ _ _ z => nomatch z) fun z => nomatch z
    refine ⟨.nd (.obj true cn []) false x dx [] :: xs, slots ρA' ++ R, w2, by rw [List.map_cons, i4]; rfl, ?_⟩
    rw [erL, i1, er, erL]
    split at q
    · rename_i t ts' ec
      rw [ec]
      intro r ys H' er1 ey ev w'
      cases ys with
      | nil => cases ey
      | cons y ys =>
        rw [erL] at ey
        obtain ⟨ey1, ey2⟩ := List.cons.inj ey
        rw [List.map_cons] at ev
        obtain ⟨ev1, ev2⟩ := List.cons.inj ev
        have rn := er_non er1
        subst rn
        refine ⟨rfl, ?_⟩
        have w3 : W (tab X c) H' (ys ++ (slots ρA' ++ (y :: R))) := (w'.drop).perm (perm_of fun f g h1 h2 h3 => by simp only [List.cons_append, h1, h2]; omega)
        obtain ⟨ρA2, j1, j2, j3⟩ := scatter_ok i3 av ev2 w3
        split at q
        · exact q.elim
        · rw [← ev1]
          exact q y H' ey1 ⟨ρA2, by rw [j1, ey2, i2], j2, j3⟩
    · rename_i e' t ts' ec
      rw [ec]
      intro ys H' cls d ey ev w' ex
      cases ys with
      | nil => cases ey
      | cons y ys =>
        rw [erL] at ey
        obtain ⟨ey1, ey2⟩ := List.cons.inj ey
        rw [List.map_cons] at ev
        obtain ⟨ev1, ev2⟩ := List.cons.inj ev
        have w3 : W (tab X c) H' (ys ++ (slots ρA' ++ R)) := w'.drop
        obtain ⟨ρA2, j1, j2, j3⟩ := scatter_ok i3 av ev2 w3
        exact q H' cls d ⟨ρA2, by rw [j1, ey2, i2], j2, j3⟩ ex
    · exact q.elim
end
section
variable {X : Cx} {c : Cu} {CX : CXT} {k : Nat} {f : Addr} {fd : FuncData} {ps : List Str} {x m : Str} {p pos apos : Pos} {e o : Expr} {es : List Expr} {cf : CF} {fa : M (List AR)} {cn : Nat}
theorem se_make (hc : Cls X.K (c.ct cn)) (Mk' : Mk X.K (c.ct cn) f) (F : FnOk X.prog X.w X.K X.mg X.base CX k f fd ps (spF (tab X c) cf)) (hr : Room (k + 1) X.A) (hx : Lets X c CX) (hm : X.mg x = some (.ref (c.ct cn))) (hb : Binds X.K fd ps []) (ha : SM X c (e :: es) fa)
    (hg : Gl X x := by rfl) (hdb : (x == ("__debug__" : Str)) = false := by decide) (he : starEach (e :: es) X.env = (false, eval e X.env) :: starEach es X.env := by rfl) (hpl : (backTo pos (starEach es X.env)).any (·.1) = false := by rfl) :
    SE X c (.Call (.Name x p) (e :: es) [] pos) (fMake cn cf fa) :=
  pe_imp (pe_makeSD (E := fun σ cls d H' => c.X cls d σ H') Mk' F hr hg hm hb hx ha hdb he hpl) fun σ H Q h => by
    obtain ⟨ρ, R, I, P⟩ := h
    exact ⟨ρ, R, I, (Post.bind.mp P).mono (fun _ _ i => i) fun ars ρ1 q rs H1 e1 I1 vs av => callMk_ok hc q I1 e1 av⟩
theorem se_make0 (hc : Cls X.K (c.ct cn)) (Mk' : Mk X.K (c.ct cn) f) (F : FnOk X.prog X.w X.K X.mg X.base CX k f fd ps (spF (tab X c) cf)) (hr : Room (k + 1) X.A) (hx : Lets X c CX) (hm : X.mg x = some (.ref (c.ct cn))) (hb : Binds X.K fd ps [])
    (hg : Gl X x := by rfl) (hdb : (x == ("__debug__" : Str)) = false := by decide) : SE X c (.Call (.Name x p) [] [] pos) (fMake cn cf fANil) :=
  pe_imp (pe_makeSD0 (E := fun σ cls d H' => c.X cls d σ H') Mk' F hr hg hm hb hx hdb) fun σ H Q h => by
    obtain ⟨ρ, R, I, P⟩ := h
    exact callMk_ok (rs := []) hc P I rfl .nil
end

/-! ### places deeper down -/
/-- the child of a node at an index or a key -/
def keyT : T → Option Key
  | .int i => some (.inl i)
  | .str x => some (.inr x)
  | _ => none
def posIx : T → T → Option Nat
  | .nd (.lst _) xs, .int i => ixN xs.length i
  | .nd .tup xs, .int i => ixN xs.length i
  | .nd (.dct _ ks) xs, t => (keyT t).bind fun k => kpos k ks
  | _, _ => none
def posF (f : Str) : T → Option Nat
  | .nd (.obj _ _ ns) _ => kpos f ns
  | _ => none
def deeper (pos : T → Option Nat) (ip : Nat × List Nat) : M (Nat × List Nat) := fun ρ => match ρ[ip.1]? with
  | some (some r) => match r.get ip.2 with
    | some l => match pos l with
      | some j => match r.get (ip.2 ++ [j]) with
        | some _ => .ok (ip.1, ip.2 ++ [j]) ρ
        | none => .bad
      | none => .bad
    | none => .bad
  | _ => .bad
theorem aget_append : ∀ (p : List Nat) (r : A) (q : List Nat), aget r (p ++ q) = (aget r p).bind fun x => aget x q
  | [], r, q => by cases r <;> simp [aget]
  | i :: p, .nd k w a dx xs, q => by
    rw [List.cons_append, aget, aget]
    cases xs[i]? with
    | none => rfl
    | some y => exact aget_append p y q
  | _ :: _, .non, _ => rfl
  | _ :: _, .bl _, _ => rfl
  | _ :: _, .int _, _ => rfl
  | _ :: _, .str _, _ => rfl
  | _ :: _, .cst _, _ => rfl
  | _ :: _, .hole _, _ => rfl
theorem aget_one {k : NK} {w : Bool} {a dx : Addr} {xs : List A} {j : Nat} : aget (.nd k w a dx xs) [j] = xs[j]? := by
  rw [aget]
  cases xs[j]? with
  | none => rfl
  | some y => cases y <;> rfl
theorem W.at {B : Tab} {H : Hp} {R : List A} {r x : A} {p : List Nat} (h : W B H (r :: R)) (e : aget r p = some x) : Ok B H x := (h.focus e).2
section
variable {X : Cx} {c : Cu} {o i : Expr} {fp : M (Nat × List Nat)} {pos : Pos}
/-- what follows a step deeper -/
theorem deeper_ok {σ : L2.St} {H : Hp} {R : List A} {Q : VK} {ip : Nat × List Nat} {ρA : AEnv} {ps : T → Option Nat} (m : Mat ρA σ) (w : W (tab X c) H (slots ρA ++ R)) (P : Post X c σ R (KB X c σ R Q) (deeper ps ip (erE ρA))) :
    ∃ root k w' a dx xs j y, ρA[ip.1]? = some (some root) ∧ aget root ip.2 = some (.nd k w' a dx xs) ∧ Ok (tab X c) H (.nd k w' a dx xs) ∧ ps (er (.nd k w' a dx xs)) = some j ∧ xs[j]? = some y ∧ Q (val y) H := by
  unfold deeper at P
  split at P
  · rename_i rt e1
    obtain ⟨root, er1, ert⟩ := erE_some e1
    subst ert
    rw [er_aget] at P
    cases el : aget root ip.2 with
    | none => rw [el] at P; exact P.elim
    | some leaf =>
      rw [el] at P
      simp only [Option.map_some] at P
      split at P
      · rename_i j ej
        split at P
        · rename_i lt elt
          rw [er_aget, aget_append, el] at elt
          simp only [Option.bind_some] at elt
          cases leaf with
          | nd k w' a dx xs =>
            rw [aget_one] at elt
            cases ey : xs[j]? with
            | none => rw [ey] at elt; cases elt
            | some y =>
              refine ⟨root, k, w', a, dx, xs, j, y, er1, el, (w.take er1).at el, ej, ey, ?_⟩
              obtain ⟨root2, leaf2, g1, g2, q⟩ := P ρA H rfl m w
              rw [er1] at g1
              cases g1
              rw [aget_append, el] at g2
              simp only [Option.bind_some] at g2
              rw [aget_one, ey] at g2
              cases g2
              exact q
          | _ => cases elt
        · exact P.elim
      · exact P.elim
  · exact P.elim
def fFld (f : Str) (fp : M (Nat × List Nat)) : M (Nat × List Nat) := fp.bind (deeper (posF f))
theorem fld_of {B : Tab} {H : Hp} {k : NK} {w : Bool} {a dx : Addr} {xs : List A} {f : Str} {j : Nat} {y : A} (ok : Ok B H (.nd k w a dx xs)) (ej : posF f (er (.nd k w a dx xs)) = some j) (ey : xs[j]? = some y) :
    ∃ (C : Addr) (fs : List (Str × V)), H a = some (.ins C dx fs) ∧ Cls B.K C ∧ NoAttr B.K C f ∧ fs.lookup f = some (val y) := by
  rw [er] at ej
  cases k with
  | obj m cn ns =>
    obtain ⟨⟨_, hl, hc, hn, hh⟩, _⟩ := ok
    have ej' : kpos f ns = some j := ej
    refine ⟨_, _, hh, hc, hn f (List.mem_of_getElem? (kpos_some ej')), ?_⟩
    rw [lookup_zip hl, ej']
    simp only [Option.bind_some]
    rw [List.getElem?_map, ey]
    rfl
  | _ => cases ej
theorem sb_fld {f : Str} (ho : SB X c o fp) (hb : attributeBase o f X.env (eval o X.env) = eval o X.env := by rfl) : SB X c (.Attribute o f pos) (fFld f fp) := pe_imp (pe_fld ho hb) fun σ H Q h => by
  obtain ⟨ρ, R, I, P⟩ := h
  refine sb_then I P fun ip ρA H1 m w P1 => ?_
  obtain ⟨root, k, w', a, dx, xs, j, y, g1, g2, ok, ej, ey, q⟩ := deeper_ok m w P1
  obtain ⟨C, fs, h1, h2, h3, h4⟩ := fld_of ok ej ey
  exact ⟨root, _, g1, g2, a, C, dx, fs, val y, rfl, h1, h2, h3, h4, q⟩
/-- indexes that change nothing -/
def SX (X : Cx) (e : Expr) (g : Env → Option T) : Prop := PE X e (fun σ H Q => ∃ ρA : AEnv, Mat ρA σ ∧ ∃ t v, g (erE ρA) = some t ∧ atomV t = some v ∧ Q v H)
theorem atom_er {r : A} {v : V} (h : atomV (er r) = some v) : val r = v := by
  cases r <;> first | (cases h; rfl) | (cases h)
def xVar (j : Nat) : Env → Option T := fun ρ => match ρ[j]? with
  | some (some t) => some t
  | _ => none
theorem sx_var (j : Nat) {x : Str} (hN : X.N[j]? = some x := by rfl) (hv : Vis X.env.scope x := by first | exact Or.inl rfl | exact Or.inr (Or.inl rfl) | exact Or.inr (Or.inr rfl)) (hd : (x == ("__debug__" : Str)) = false := by decide)
    (hcd : (x == ("__classdict__" : Str)) = false := by decide) : SX X (.Name x pos) (xVar j) := pe_imp (pe_var hN hv hd hcd) fun σ H Q h => by
  obtain ⟨ρA, m, t, v, e1, e2, q⟩ := h
  unfold xVar at e1
  split at e1
  · rename_i t' e3
    cases e1
    obtain ⟨r, h1, h2⟩ := erE_some e3
    subst h2
    exact ⟨val r, m.at_ j r h1, by rw [atom_er e2]; exact q⟩
  · cases e1
def xC (t : T) : Env → Option T := fun _ => some t
theorem sx_int {i j} : SX X (.Constant (.int i) j pos) (xC (.int i)) := pe_imp pe_int fun σ H Q h => by
  obtain ⟨ρA, m, t, v, e1, e2, q⟩ := h
  cases e1
  cases e2
  exact q
theorem sx_str {i j} : SX X (.Constant (.str i) j pos) (xC (.str i)) := pe_imp pe_str fun σ H Q h => by
  obtain ⟨ρA, m, t, v, e1, e2, q⟩ := h
  cases e1
  cases e2
  exact q
def xNeg (g : Env → Option T) : Env → Option T := fun ρ => match g ρ with
  | some (.int i) => some (.int (-i))
  | _ => none
theorem sx_neg {g : Env → Option T} {a : Expr} (h : SX X a g) : SX X (.UnaryOp .USub a pos) (xNeg g) := pe_imp (pe_un un_neg h) fun σ H Q h => by
  obtain ⟨ρA, m, t, v, e1, e2, q⟩ := h
  unfold xNeg at e1
  split at e1
  · rename_i i e3
    cases e1
    cases e2
    exact ⟨ρA, m, .int i, .int i, e3, rfl, i, rfl, q⟩
  · cases e1
def xBin (op : Int → Int → Int) (g g' : Env → Option T) : Env → Option T := fun ρ => match g ρ, g' ρ with
  | some (.int i), some (.int j) => some (.int (op i j))
  | _, _ => none
theorem sx_add {g g' : Env → Option T} {a b : Expr} (h : SX X a g) (h' : SX X b g') : SX X (.BinOp a .Add b pos) (xBin (· + ·) g g') := pe_imp (pe_add h h') fun σ H Q h => by
  obtain ⟨ρA, m, t, v, e1, e2, q⟩ := h
  unfold xBin at e1
  split at e1
  · rename_i i j e3 e4
    cases e1
    cases e2
    exact ⟨ρA, m, .int i, .int i, e3, rfl, ρA, m, .int j, .int j, e4, rfl, i, j, rfl, rfl, q⟩
  · cases e1
theorem sx_sub {g g' : Env → Option T} {a b : Expr} (h : SX X a g) (h' : SX X b g') : SX X (.BinOp a .Sub b pos) (xBin (· - ·) g g') := pe_imp (pe_sub h h') fun σ H Q h => by
  obtain ⟨ρA, m, t, v, e1, e2, q⟩ := h
  unfold xBin at e1
  split at e1
  · rename_i i j e3 e4
    cases e1
    cases e2
    exact ⟨ρA, m, .int i, .int i, e3, rfl, ρA, m, .int j, .int j, e4, rfl, i, j, rfl, rfl, q⟩
  · cases e1
/-- o[i] by values, whatever o is -/
def rIxD : R2 := fun x y H Q => ∃ a v, x = .ref a ∧ DGet H a y (some v) ∧ Q v H
theorem ix_dict (hu : X.A.units + 1 < cLine) : IxR X rIxD := by
  intro value slice pins s σ H x y v u Q I rx ry h hs
  obtain ⟨a, w, rfl, g, q⟩ := h
  cases rx
  exact tail_any (dict_typeIs I g) PySem.F.slot_dict_getitem.lookup (d_getItem hu I g ry fun w' s3 I3 rw' => ⟨w, H, I3, rw', q⟩) hs
def rIxA (K : PySem.W.Frag) : R2 := fun x y H Q => rIxD x y H Q ∨ rIx K x y H Q
theorem ix_all (hu : X.A.units + 1 < cLine) : IxR X (rIxA X.K) := (ix_dict hu).or ix_seq
theorem kV_of {t : T} {k : Key} (h : keyT t = some k) {r : A} (e : er r = t) : val r = kV k := by
  subst e
  cases r <;> first | (cases h; rfl) | (cases h)
theorem atI_of {α : Type} {xs : List α} {i : Int} {j : Nat} {y : α} (h : ixN xs.length i = some j) (e : xs[j]? = some y) : atI xs i = some y := by
  unfold atI
  rw [h]
  exact e
/-- the child's value, read -/
theorem ix_read {B : Tab} {H : Hp} {k : NK} {w : Bool} {a dx : Addr} {xs : List A} {t : T} {v : V} {j : Nat} {y : A} {Q : VK} (ok : Ok B H (.nd k w a dx xs)) (ej : posIx (er (.nd k w a dx xs)) t = some j) (hv : atomV t = some v) (ey : xs[j]? = some y) (q : Q (val y) H) :
    rIxA B.K (.ref a) v H Q := by
  rw [er] at ej
  have ev : (xs.map val)[j]? = some (val y) := by rw [List.getElem?_map, ey]; rfl
  cases k with
  | lst m =>
    cases t <;> simp only [posIx] at ej <;> try (cases ej)
    rename_i i
    rw [len_erL] at ej
    cases hv
    refine .inr (.inl ⟨a, xs.map val, i, val y, rfl, rfl, ?_, atI_of (by rw [List.length_map]; exact ej) ev, q⟩)
    exact .of ok.1.2
  | tup =>
    cases t <;> simp only [posIx] at ej <;> try (cases ej)
    rename_i i
    rw [len_erL] at ej
    cases hv
    refine .inr (.inr (.inl ⟨a, xs.map val, i, val y, rfl, rfl, ?_, atI_of (by rw [List.length_map]; exact ej) ev, q⟩))
    cases w with
    | true => exact ok.1 H
    | false => exact .of ok.1
  | dct m ks =>
    simp only [posIx] at ej
    cases ek : keyT t with
    | none => rw [ek] at ej; cases ej
    | some k' =>
      rw [ek] at ej
      simp only [Option.bind_some] at ej
      obtain ⟨⟨_, hl, hn, hh⟩, _⟩ := ok
      refine .inl ⟨a, val y, rfl, ?_, q⟩
      have hvk : v = kV k' := by
        cases t <;> first | (cases ek; cases hv; rfl) | (cases ek)
      rw [hvk]
      have := DGet.k (k := k') hh
      rw [valV_zip hl, ej] at this
      simp only [Option.bind_some] at this
      rw [ev] at this
      exact this
  | _ => simp only [posIx] at ej; cases ej
def fIx (g : Env → Option T) (fp : M (Nat × List Nat)) : M (Nat × List Nat) := fp.bind fun ip ρ => match g ρ with
  | some t => match atomV t with
    | some _ => deeper (fun l => posIx l t) ip ρ
    | none => .bad
  | none => .bad
theorem sb_ix {g : Env → Option T} (hu : X.A.units + 1 < cLine) (ho : SB X c o fp) (hi : SX X i g) (hs : PlainIx i := by exact fun _ _ => rfl) : SB X c (.Subscript o i pos) (fIx g fp) := pe_imp (pe_ix (ix_all hu) ho hi hs) fun σ H Q h => by
  obtain ⟨ρ, R, I, P⟩ := h
  refine sb_then I P fun ip ρA H1 m w P1 => ?_
  split at P1
  · rename_i t et
    split at P1
    · rename_i v ev
      obtain ⟨root, k, w', a, dx, xs, j, y, g1, g2, ok, ej, ey, q⟩ := deeper_ok m w P1
      exact ⟨root, _, g1, g2, ρA, m, t, v, et, ev, ix_read ok ej ev ey q⟩
    · exact P1.elim
  · exact P1.elim
end
end Tr
end

section
set_option Elab.async false
set_option linter.all false
set_option autoImplicit false
set_option maxRecDepth 100000
/-! What changes an object; subscripts and fields of values. -/
namespace Tr
open PySem PySem.Spec PyProof.Rows L2

/-- the object at a place is changed -/
theorem mut_ok {X : Cx} {c : Cu} {σ : L2.St} {H H' : Hp} {ρA : AEnv} {j : Nat} {p : List Nat} {root leaf leaf' : A} {rs res R : List A} (m : Mat ρA σ) (w : W (tab X c) H (slots ρA ++ (rs ++ R))) (e1 : ρA[j]? = some (some root)) (e2 : aget root p = some leaf) (po : (er root).pown p = true)
    (hv : val leaf' = val leaf) (step : ∀ S, W (tab X c) H (leaf :: (rs ++ S)) → W (tab X c) H' (leaf' :: (res ++ S))) : SI X c σ H' ((erE ρA).set j (some ((er root).set p (er leaf')))) (res ++ R) := by
  have w1 := w.take e1
  obtain ⟨w2, _⟩ := w1.focus e2
  have w3 : W (tab X c) H (leaf :: (rs ++ (aset root p (.hole (val leaf)) :: (slots (ρA.set j none) ++ R)))) := w2.perm (perm_of fun f g h1 h2 h3 => by simp only [h1, h2]; omega)
  have w4 := step _ w3
  have w5 : W (tab X c) H' (leaf' :: aset root p (.hole (val leaf)) :: (slots (ρA.set j none) ++ (res ++ R))) := w4.perm (perm_of fun f g h1 h2 h3 => by simp only [h1, h2]; omega)
  obtain ⟨w6, v6⟩ := W.unfocus e2 w5 hv (.inr po)
  have hlt : j < ρA.length := (List.getElem?_eq_some_iff.mp e1).1
  exact ⟨ρA.set j (some (aset root p leaf')), by rw [erE_set, Option.map_some, er_aset], m.set fun _ => by rw [v6]; exact m.at_ _ _ e1, w6.put hlt⟩
/-- the step of an object that is changed: what comes in and what falls out -/
theorem chg_of {B : Tab} {H : Hp} {k k' : NK} {a dx : Addr} {o : HO} {xs ys rs res S : List A} (h : W B H (.nd k false a dx xs :: (rs ++ S))) (hk : k.m = true) (hk' : k'.m = true) (hp : ∃ l, (xs ++ (rs ++ S)).Perm (l ++ (ys ++ (res ++ S))))
    (hn : NodeOk B (upd H a o) k' false a dx (ys.map val)) : W B (upd H a o) (.nd k' false a dx ys :: (res ++ S)) := by
  obtain ⟨l, p⟩ := hp
  have h1 : W B H (xs ++ (rs ++ S)) := h.open
  refine h.chg hk hk' (h1.perm p.symm).right (fun b hb => ?_) (fun b hb => .inl ?_) hn
  · obtain ⟨y, hy, hb⟩ := mem_ownL.mp hb
    exact mem_ownL.mpr ⟨y, p.mem_iff.mpr (List.mem_append_right _ hy), hb⟩
  · obtain ⟨y, hy, hb⟩ := mem_frzL.mp hb
    exact mem_frzL.mpr ⟨y, p.mem_iff.mpr (List.mem_append_right _ hy), hb⟩

/-! ### o.f = e -/
def setF (cn : Nat) (f : Str) (t : T) : T → Option T
  | .nd (.obj true c ns) xs => if c = cn ∧ ns.length < 1000 then some (.nd (.obj true c (kput f t ns xs).1) (kput f t ns xs).2) else none
  | _ => none
/-- the tree at a place is exchanged by u of it -/
def chgPl (u : T → Option T) (ip : Nat × List Nat) : M Unit := fun ρ => match ρ[ip.1]? with
  | some (some r) => match r.get ip.2 with
    | some l => match u l with
      | some l' => if r.pown ip.2 then .ok () (ρ.set ip.1 (some (r.set ip.2 l'))) else .bad
      | none => .bad
    | none => .bad
  | _ => .bad
/-- what is there for a change at a place -/
theorem chgPl_of {u : T → Option T} {ip : Nat × List Nat} {ρA : AEnv} {ρ' : Env} (h : chgPl u ip (erE ρA) = .ok () ρ') : ∃ root leaf l', ρA[ip.1]? = some (some root) ∧ aget root ip.2 = some leaf ∧ u (er leaf) = some l' ∧ (er root).pown ip.2 = true ∧ ρ' = (erE ρA).set ip.1 (some ((er root).set ip.2 l')) := by
  unfold chgPl at h
  split at h
  · rename_i rt e1
    obtain ⟨root, er1, ert⟩ := erE_some e1
    subst ert
    rw [er_aget] at h
    cases el : aget root ip.2 with
    | none => rw [el] at h; cases h
    | some leaf =>
      rw [el] at h
      simp only [Option.map_some] at h
      split at h
      · rename_i l' eu
        split at h
        · rename_i hp
          cases h
          exact ⟨root, leaf, l', er1, el, eu, hp, rfl⟩
        · cases h
      · cases h
  · cases h
section
variable {X : Cx} {c : Cu} {o e : Expr} {fp : M (Nat × List Nat)} {fe : M T} {pos pos' : Pos}
theorem setF_ok {B : Tab} {H : Hp} {cn : Nat} {f : Str} {leaf x : A} {l' : T} {v : V} (hna : NoAttr B.K (B.ct cn) f) (eu : setF cn f (er x) (er leaf) = some l') (ok : Ok B H leaf) (hv : v = val x) : ∃ a dx fs ys nsy, leaf = .nd (.obj true cn nsy) false a dx ys ∧ H a = some (.ins (B.ct cn) dx fs) ∧ Cls B.K (B.ct cn) ∧ fs.length < 1000 ∧
    er (.nd (.obj true cn (kput f x nsy ys).1) false a dx (kput f x nsy ys).2) = l' ∧ ∀ S, W B H (leaf :: ([x] ++ S)) → W B (upd H a (.ins (B.ct cn) dx (putF f v fs))) (.nd (.obj true cn (kput f x nsy ys).1) false a dx (kput f x nsy ys).2 :: ([] ++ S)) := by
  subst hv
  cases leaf with
  | nd k w a dx ys =>
    rw [er] at eu
    cases k with
    | obj m c' ns =>
      cases m with
      | true =>
        simp only [setF] at eu
        split at eu
        · rename_i hh
          obtain ⟨rfl, hlen⟩ := hh
          obtain ⟨⟨rfl, hl, hc, hn, hh⟩, ok2, ok3⟩ := ok
          refine ⟨a, dx, _, ys, ns, rfl, hh, hc, ?_, ?_, fun S w1 => ?_⟩
          · rw [List.length_zip, ← hl, Nat.min_self]
            exact hlen
          · rw [← Option.some.inj eu, er, erL_map, erL_map, kput_map]
          · have w2 : W B H (.nd (.obj true c' ns) false a dx ys :: ([x] ++ S)) := w1
            refine chg_of (rs := [x]) (res := []) w2 rfl rfl ?_ ?_
            · unfold kput
              cases ep : kpos f ns with
              | none => exact ⟨[], perm_of fun f g h1 h2 h3 => by simp only [h1, h2, h3]; omega⟩
              | some j =>
                cases ej : ys[j]? with
                | none =>
                  refine ⟨[x], ?_⟩
                  simp only []
                  rw [List.set_eq_of_length_le (List.getElem?_eq_none_iff.mp ej)]
                  exact perm_of fun f g h1 h2 h3 => by simp only [h1, h2, h3]; omega
                | some y =>
                  obtain ⟨l, p1, p2⟩ := set_perm x ej
                  refine ⟨[y], ?_⟩
                  have q1 := p1.append_right ([x] ++ S)
                  have q2 := (p2.append_right ([] ++ S)).symm
                  refine q1.trans (List.Perm.trans ?_ (List.Perm.cons y q2))
                  exact perm_of fun f g h1 h2 h3 => by simp only [List.cons_append, h1, h2, h3]; omega
            · have hl' : ns.length = ys.length := by simpa using hl
              refine ⟨rfl, ?_, hc, fun g hg => ?_, ?_⟩
              · rw [List.length_map]; exact kput_len hl'
              · unfold kput at hg
                cases ep : kpos f ns with
                | none =>
                  rw [ep] at hg
                  simp only [List.mem_append, List.mem_singleton] at hg
                  rcases hg with hg | hg
                  · exact hn g hg
                  · rw [hg]; exact hna
                | some j => rw [ep] at hg; exact hn g hg
              · rw [upd_same, putF_zip hl, kput_map]
        · cases eu
      | false => cases eu
    | _ => cases eu
  | _ => cases eu
def sFldSet (cn : Nat) (f : Str) (fe : M T) (fp : M (Nat × List Nat)) : FS := sBind fe fun t => sBind fp fun ip ρ => match chgPl (setF cn f t) ip ρ with
  | .ok _ ρ' => .nx ρ'
  | _ => .bad
theorem ss_fld {cn : Nat} {f : Str} (ho : SB X c o fp) (he : SE X c e fe) (hna : NoAttr X.K (c.ct cn) f) (hs : swapsWith e (some (.Attribute o f pos')) pos.line X.env = pure false := by rfl) : SS X c (.Assign [.Attribute o f pos'] e pos) (sFldSet cn f fe fp) :=
  ps_imp (ps_fld ho he hs) fun D σ H h => by
    obtain ⟨ρ, R, I, P⟩ := h
    refine ss_then I P fun x H1 ρ1 I1 P1 => ?_
    refine ⟨ρ1, x :: R, I1, (sBind_post P1).mono (fun _ _ i => i.drop) fun ip ρ' P2 ρA H2 eA m w => ?_⟩
    subst eA
    split at P2
    · rename_i u ρ2 e2
      obtain ⟨root, leaf, l', g1, g2, eu, po, rfl⟩ := chgPl_of e2
      have ok : Ok (tab X c) H2 leaf := (w.take g1).at g2
      obtain ⟨a, dx, fs, ys, nsy, rfl, hh, hc, hlen, el', step⟩ := setF_ok (B := tab X c) hna eu ok rfl
      refine ⟨root, _, g1, g2, a, c.ct cn, dx, fs, rfl, hh, hc, hna, hlen, ?_⟩
      have := mut_ok (rs := [x]) (res := []) (leaf' := .nd (.obj true cn (kput f x nsy ys).1) false a dx (kput f x nsy ys).2) m w g1 g2 po rfl step
      rw [el'] at this
      exact P2 σ _ this .refl
    · exact P2.elim
/-- o.f += n -/
def addF (cn : Nat) (f : Str) (n : Int) : T → Option T
  | .nd (.obj true c ns) xs => match kpos f ns with
    | some j => match xs[j]? with
      | some (.int i) => setF cn f (.int (i + n)) (.nd (.obj true c ns) xs)
      | _ => none
    | none => none
  | _ => none
def sFldAdd (cn : Nat) (f : Str) (g : Env → Option T) (fp : M (Nat × List Nat)) : FS := sBind fp fun ip ρ => match g ρ with
  | some (.int n) => match chgPl (addF cn f n) ip ρ with
    | .ok _ ρ' => .nx ρ'
    | _ => .bad
  | _ => .bad
theorem ss_fldadd {cn : Nat} {f : Str} {g : Env → Option T} (ho : SB X c o fp) (he : SX X e g) (hna : NoAttr X.K (c.ct cn) f) : SS X c (.AugAssign (.Attribute o f pos') .Add e pos) (sFldAdd cn f g fp) :=
  ps_imp (ps_fldaug ho he in_add) fun D σ H h => by
    obtain ⟨ρ, R, I, P⟩ := h
    refine ssB_then I P fun ip ρA H1 m w P1 => ?_
    split at P1
    · rename_i n en
      split at P1
      · rename_i u ρ2 e2
        obtain ⟨root, leaf, l', g1, g2, eu, po, rfl⟩ := chgPl_of e2
        have ok : Ok (tab X c) H1 leaf := (w.take g1).at g2
        cases leaf with
        | nd k w' a dx ys =>
          rw [er] at eu
          cases k with
          | obj mm c' ns =>
            cases mm with
            | true =>
              simp only [addF] at eu
              split at eu
              · rename_i j ej
                split at eu
                · rename_i i ei
                  rw [erL_get] at ei
                  cases ey : ys[j]? with
                  | none => rw [ey] at ei; cases ei
                  | some y =>
                    rw [ey] at ei
                    have ey2 : er y = .int i := Option.some.inj ei
                    have := er_int ey2
                    subst this
                    obtain ⟨a', dx', fs, ys', nsy, e3, hh, hc, hlen, el', step⟩ := setF_ok (B := tab X c) (x := .int (i + n)) (v := .int (i + n)) (leaf := .nd (.obj true c' ns) w' a dx ys) hna (by rw [er]; exact eu) ok rfl
                    cases e3
                    obtain ⟨⟨_, hl, _, _, hh2⟩, _⟩ := ok
                    have hlk : fs.lookup f = some (.int i) := by
                      rw [hh] at hh2
                      cases hh2
                      rw [lookup_zip hl, ej]
                      simp only [Option.bind_some]
                      rw [List.getElem?_map, ey]
                      rfl
                    refine ⟨root, _, g1, g2, a, c.ct cn, dx, fs, .int i, rfl, hh, hc, hna, hlk, ρA, m, .int n, .int n, en, rfl, i, n, rfl, rfl, dx, fs, hh, hlen, ?_⟩
                    have w2 : W (tab X c) H1 (slots ρA ++ ([.int (i + n)] ++ R)) := (w.int (i := i + n)).toMid
                    have := mut_ok (rs := [.int (i + n)]) (res := []) (leaf' := .nd (.obj true cn (kput f (.int (i + n)) ns ys).1) false a dx (kput f (.int (i + n)) ns ys).2) m w2 g1 g2 po rfl step
                    rw [el'] at this
                    exact P1 σ _ this .refl
                · cases eu
              · cases eu
            | false => cases eu
          | _ => cases eu
        | _ => cases eu
      · exact P1.elim
    · exact P1.elim
end

/-! ### o[i] = e -/
def setIx (i t : T) : T → Option T
  | .nd (.lst true) xs => match i with
    | .int k => (ixN xs.length k).map fun j => .nd (.lst true) (xs.set j t)
    | _ => none
  | .nd (.dct true ks) xs => (keyT i).bind fun k => if ks.length < sizeLine then some (.nd (.dct true (kput k t ks xs).1) (kput k t ks xs).2) else none
  | _ => none
def rSetA : TSet := fun o i v H Q => rSetL o i v H Q ∨ rSetD o i v H Q
theorem set_all {X : Cx} (hu : X.A.units + 1 < cLine) : PSet X rSetA := by
  intro pins s σ H o i v ov iv u Q I ro ri rv h
  rcases h with h | h
  · exact set_list pins s σ H o i v ov iv u Q I ro ri rv h
  · exact set_dict hu pins s σ H o i v ov iv u Q I ro ri rv h
theorem ixN_lt {n : Nat} {i : Int} {j : Nat} (h : ixN n i = some j) : j < n := (ixN_seq h).2.1
/-- a store at an index, by values -/
theorem setIx_ok {B : Tab} {H : Hp} {i : T} {leaf x : A} {l' : T} {iv : V} (eu : setIx i (er x) (er leaf) = some l') (ok : Ok B H leaf) (hiv : atomV i = some iv) :
    ∃ o leaf' a, val leaf = .ref a ∧ val leaf' = val leaf ∧ er leaf' = l' ∧ (∀ S, W B H (leaf :: ([x] ++ S)) → W B (upd H a o) (leaf' :: ([] ++ S))) ∧ ∀ Q : Hp → Prop, Q (upd H a o) → rSetA (val leaf) iv (val x) H Q := by
  cases leaf with
  | nd k w a dx ys =>
    rw [er] at eu
    cases k with
    | lst m =>
      cases m with
      | true =>
        simp only [setIx] at eu
        split at eu
        · rename_i k
          cases hiv
          rw [len_erL] at eu
          cases ej : ixN ys.length k with
          | none => rw [ej] at eu; cases eu
          | some j =>
            rw [ej] at eu
            simp only [Option.map_some] at eu
            obtain ⟨⟨rfl, hh⟩, _⟩ := ok
            have hlt := ixN_lt ej
            refine ⟨.lst ((ys.map val).set j (val x)), .nd (.lst true) false a dx (ys.set j x), a, rfl, rfl, ?_, fun S w1 => ?_, fun Q q => .inl ⟨a, ys.map val, k, j, rfl, rfl, hh, by rw [List.length_map]; exact ej, q⟩⟩
            · rw [← Option.some.inj eu, er, erL_map, erL_map, List.map_set]
            · have w2 : W B H (.nd (.lst true) false a dx ys :: ([x] ++ S)) := w1
              refine chg_of (rs := [x]) (res := []) w2 rfl rfl ?_ ⟨rfl, by rw [upd_same, List.map_set]⟩
              obtain ⟨l, p1, p2⟩ := set_perm x (List.getElem?_eq_getElem hlt)
              refine ⟨[ys[j]], ?_⟩
              have q1 := p1.append_right ([x] ++ S)
              have q2 := (p2.append_right ([] ++ S)).symm
              refine q1.trans (List.Perm.trans ?_ (List.Perm.cons _ q2))
              exact perm_of fun f g h1 h2 h3 => by simp only [List.cons_append, h1, h2, h3]; omega
        · cases eu
      | false => cases eu
    | dct m ks =>
      cases m with
      | true =>
        simp only [setIx] at eu
        cases ek : keyT i with
        | none => rw [ek] at eu; cases eu
        | some k =>
          rw [ek] at eu
          simp only [Option.bind_some] at eu
          split at eu
          · rename_i hsz
            obtain ⟨⟨rfl, hl, hn, hh⟩, _⟩ := ok
            have hvk : iv = kV k := by
              cases i <;> first | (cases ek; cases hiv; rfl) | (cases ek)
            subst hvk
            have hl' : ks.length = ys.length := by simpa using hl
            have hkv : ∀ {β : Type} (v : β) (vs : List β), (kput k v ks vs).1 = (kput k x ks ys).1 := fun v vs => by unfold kput; cases kpos k ks <;> rfl
            refine ⟨.dK (putK (ks.zip (ys.map val)) k (val x)), .nd (.dct true (kput k x ks ys).1) false a dx (kput k x ks ys).2, a, rfl, rfl, ?_, fun S w1 => ?_, fun Q q => .inr ⟨a, _, rfl, DPut.k hh ?_, q⟩⟩
            · rw [← Option.some.inj eu, er, erL_map, erL_map, kput_map]
            · have w2 : W B H (.nd (.dct true ks) false a dx ys :: ([x] ++ S)) := w1
              refine chg_of (rs := [x]) (res := []) w2 rfl rfl ?_ ⟨rfl, by rw [List.length_map]; exact kput_len hl', kput_nodup hn, ?_⟩
              · unfold kput
                cases ep : kpos k ks with
                | none => exact ⟨[], perm_of fun f g h1 h2 h3 => by simp only [h1, h2, h3]; omega⟩
                | some j =>
                  cases ej : ys[j]? with
                  | none =>
                    refine ⟨[x], ?_⟩
                    simp only []
                    rw [List.set_eq_of_length_le (List.getElem?_eq_none_iff.mp ej)]
                    exact perm_of fun f g h1 h2 h3 => by simp only [h1, h2, h3]; omega
                  | some y =>
                    obtain ⟨l, p1, p2⟩ := set_perm x ej
                    refine ⟨[y], ?_⟩
                    have q1 := p1.append_right ([x] ++ S)
                    have q2 := (p2.append_right ([] ++ S)).symm
                    refine q1.trans (List.Perm.trans ?_ (List.Perm.cons y q2))
                    exact perm_of fun f g h1 h2 h3 => by simp only [List.cons_append, h1, h2, h3]; omega
              · rw [upd_same, putK_zip hl hn, kput_map]
            · rw [List.length_zip, ← hl, Nat.min_self]
              exact hsz
          · cases eu
      | false => cases eu
    | _ => cases eu
  | _ => cases eu
section
variable {X : Cx} {c : Cu} {o e i : Expr} {fp : M (Nat × List Nat)} {fe fi : M T} {pos pos' : Pos}
/-- the target o[i], i an index that changes nothing -/
def gIx (g : Env → Option T) (fp : M (Nat × List Nat)) : FG := fun t => fp.bind fun ip ρ => match g ρ with
  | some k => match atomV k with
    | some _ => chgPl (setIx k t) ip ρ
    | none => .bad
  | none => .bad
theorem sg_ix {g : Env → Option T} (hu : X.A.units + 1 < cLine) (ho : SB X c o fp) (hi : SX X i g) (ha : ∀ v, assign (.Subscript o i pos) X.env v = (do
      let ov ← holding [v] (eval o X.env)
      let iv ← holding [v, ov] (eval i X.env)
      standAt pos
      holding [v, ov, iv] (setItem ov iv v)
      release [v, ov, iv] []) := by intro _; rfl) : SG X c (.Subscript o i pos) (gIx g fp) := pg_imp (pg_sub ho hi (set_all hu) ha) fun v σ H Q h => by
  obtain ⟨x, ρ, R, rfl, I, P⟩ := h
  have P0 : Post X c σ (x :: R) (fun ip ρ' => PostG X c σ R Q ((match g ρ' with
      | some k => match atomV k with
        | some _ => chgPl (setIx k (er x)) ip ρ'
        | none => .bad
      | none => .bad : Rs Unit))) (fp ρ) := by
    unfold gIx M.bind at P
    cases hf : fp ρ with
    | ok a ρ' => rw [hf] at P; exact P
    | exc e ρ' => rw [hf] at P; exact P.elim
    | bad => rw [hf] at P; exact P.elim
  refine ⟨ρ, x :: R, I, P0.mono (fun _ _ i => i) fun ip ρ1 q ρA H1 e1 m w => ?_⟩
  subst e1
  split at q
  · rename_i k ek
    split at q
    · rename_i iv ev
      cases hc : chgPl (setIx k (er x)) ip (erE ρA) with
      | ok u ρ2 =>
        rw [hc] at q
        obtain ⟨root, leaf, l', g1, g2, eu, po, rfl⟩ := chgPl_of hc
        have ok : Ok (tab X c) H1 leaf := (w.take g1).at g2
        obtain ⟨ho', leaf', a, hva, hv', el', step, fin⟩ := setIx_ok (B := tab X c) eu ok ev
        refine ⟨root, leaf, g1, g2, ρA, m, k, iv, ek, ev, fin _ ?_⟩
        have := mut_ok (rs := [x]) (res := []) m w g1 g2 po hv' step
        rw [el'] at this
        exact q σ _ this .refl
      | exc e ρ' => rw [hc] at q; exact q.elim
      | bad => rw [hc] at q; exact q.elim
    · exact q.elim
  · exact q.elim
/-- the target x[i], x a name, i any expression -/
def gIxV (j : Nat) (fi : M T) : FG := fun t ρ => match ρ[j]? with
  | some (some _) => (fi.bind fun k ρ => match atomV k with
    | some _ => chgPl (setIx k t) (j, []) ρ
    | none => .bad) ρ
  | _ => .bad
theorem sg_ixV (j : Nat) {x : Str} {p : Pos} (hu : X.A.units + 1 < cLine) (hi : SE X c i fi) (hN : X.N[j]? = some x := by rfl) (hv : Vis X.env.scope x := by first | exact Or.inl rfl | exact Or.inr (Or.inl rfl) | exact Or.inr (Or.inr rfl)) (hd : (x == ("__debug__" : Str)) = false := by decide)
    (hcd : (x == ("__classdict__" : Str)) = false := by decide) (ha : ∀ v, assign (.Subscript (.Name x p) i pos) X.env v = (do
      let ov ← holding [v] (eval (.Name x p) X.env)
      let iv ← holding [v, ov] (eval i X.env)
      standAt pos
      holding [v, ov, iv] (setItem ov iv v)
      release [v, ov, iv] []) := by intro _; rfl) : SG X c (.Subscript (.Name x p) i pos) (gIxV j fi) := pg_imp (pg_sub (pe_var hN hv hd hcd) hi (set_all hu) ha) fun v σ H Q h => by
  obtain ⟨y, ρ, R, rfl, I, P⟩ := h
  unfold gIxV at P
  split at P
  · rename_i t et
    obtain ⟨ρA, eA, m, w⟩ := id I
    subst eA
    obtain ⟨r0, er0, _⟩ := erE_some et
    refine ⟨val r0, m.at_ j r0 er0, ?_⟩
    have P0 : Post X c σ (y :: R) (fun k ρ' => PostG X c σ R Q ((match atomV k with
        | some _ => chgPl (setIx k (er y)) (j, []) ρ'
        | none => .bad : Rs Unit))) (fi (erE ρA)) := by
      unfold M.bind at P
      cases hf : fi (erE ρA) with
      | ok a ρ' => rw [hf] at P; exact P
      | exc e ρ' => rw [hf] at P; exact P.elim
      | bad => rw [hf] at P; exact P.elim
    refine ⟨erE ρA, y :: R, I, P0.mono (fun _ _ i => i) fun k ρ1 q ki H1 eki I1 => ?_⟩
    obtain ⟨ρB, eB, mB, wB⟩ := I1
    subst eB
    split at q
    · rename_i iv ev
      cases hc : chgPl (setIx k (er y)) (j, []) (erE ρB) with
      | ok u ρ2 =>
        rw [hc] at q
        obtain ⟨root, leaf, l', g1, g2, eu, po, rfl⟩ := chgPl_of hc
        have wB1 : W (tab X c) H1 (slots ρB ++ ([y] ++ R)) := wB.mid.drop
        have ok : Ok (tab X c) H1 leaf := (wB1.take g1).at g2
        have e4 : leaf = root := by cases root <;> exact (Option.some.inj g2).symm
        have e5 : val leaf = val r0 := by
          rw [e4]
          have a1 := mB.at_ _ _ g1
          rw [m.at_ j r0 er0] at a1
          exact (Option.some.inj (Option.some.inj a1)).symm
        have e6 : val ki = iv := by subst eki; exact atom_er ev
        obtain ⟨ho', leaf', a, hva, hv', el', step, fin⟩ := setIx_ok (B := tab X c) eu ok ev
        rw [e6, ← e5]
        refine fin _ ?_
        have := mut_ok (rs := [y]) (res := []) mB wB1 g1 g2 po hv' step
        rw [el'] at this
        exact q σ _ this .refl
      | exc e ρ' => rw [hc] at q; exact q.elim
      | bad => rw [hc] at q; exact q.elim
    · exact q.elim
  · exact P.elim
end

/-! ### methods of built-in types that change their object -/
/-- by values: g tells the result and the object's tree behind it -/
structure SimM (B : Tab) (Ty : String) (r : V → List V → Hp → VK → Prop) (kd : T → Bool) (g : T → List T → Option (T × T)) : Prop where
  ty : ∀ (H : Hp) (x : A), Ok B H x → kd (er x) = true → tyV B.K Ty (val x) H
  run : ∀ (H : Hp) (leaf : A) (rs S : List A) (t lt : T) (Q : VK), W B H (leaf :: (rs ++ S)) → g (er leaf) (erL rs) = some (t, lt) → (∀ z leaf' H', er z = t → er leaf' = lt → val leaf' = val leaf → W B H' (leaf' :: (z :: S)) → Q (val z) H') → r (val leaf) (rs.map val) H Q
/-- the receiver a name -/
def fBmV (kd : T → Bool) (g : T → List T → Option (T × T)) (j : Nat) (fl : M (List T)) : M T := fun ρ => match ρ[j]? with
  | some (some t0) => if kd t0 then (fl.bind fun ts ρ => match ρ[j]? with
    | some (some t1) => match g t1 ts with
      | some (t, lt) => .ok t (ρ.set j (some lt))
      | none => .bad
    | _ => .bad) ρ else .bad
  | _ => .bad
/-- the receiver a place deeper down -/
def fBmP (kd : T → Bool) (g : T → List T → Option (T × T)) (fp : M (Nat × List Nat)) (fl : M (List T)) : M T := fp.bind fun ip ρ => match ρ[ip.1]? with
  | some (some root) => match root.get ip.2 with
    | some leaf => if kd leaf && root.pown ip.2 then (fl.bind fun ts ρ2 => match g leaf ts with
        | some (t, lt) => .ok t (ρ2.set ip.1 (some (root.set ip.2 lt)))
        | none => .bad) (ρ.set ip.1 none) else .bad
    | none => .bad
  | _ => .bad
section
variable {X : Cx} {c : Cu} {o e : Expr} {es : List Expr} {Ty id : String} {r : V → List V → Hp → VK → Prop} {kd : T → Bool} {g : T → List T → Option (T × T)} {fp : M (Nat × List Nat)} {fl : M (List T)} {name : Str} {apos cpos : Pos} {σ : L2.St} {H : Hp} {Q : VK}
theorem fBmV_ok {j : Nat} (sm : SimM (tab X c) Ty r kd g) (h : SEr X c (fBmV kd g j fl) σ H Q) : ∃ v, σ[j]? = some (some v) ∧ tyV X.K Ty v H ∧ SLr X c fl σ H fun vs H2 => r v vs H2 Q := by
  obtain ⟨ρ, R, I, P⟩ := h
  unfold fBmV at P
  split at P
  · rename_i t0 et
    split at P
    · rename_i hkd
      obtain ⟨ρA, eA, m, w⟩ := id I
      subst eA
      obtain ⟨r0, er0, er0t⟩ := erE_some et
      subst er0t
      refine ⟨val r0, m.at_ j r0 er0, sm.ty H r0 (w.take er0).head hkd, ?_⟩
      refine sl_then I P fun rs H1 ρ1 I1 P1 => ?_
      obtain ⟨ρB, eB, mB, wB⟩ := I1
      subst eB
      split at P1
      · rename_i t1 et1
        obtain ⟨r1, er1, er1t⟩ := erE_some et1
        subst er1t
        split at P1
        · rename_i t lt eg
          have hv : val r1 = val r0 := by
            have a1 := mB.at_ _ _ er1
            rw [m.at_ j r0 er0] at a1
            exact (Option.some.inj (Option.some.inj a1)).symm
          have w1 := wB.take er1
          have w2 : W (tab X c) H1 (r1 :: (rs ++ (slots (ρB.set j none) ++ R))) := w1.perm (perm_of fun f g h1 h2 h3 => by simp only [h1, h2]; omega)
          rw [← hv]
          refine sm.run H1 r1 rs _ t lt Q w2 eg fun z leaf' H' ez el hv' w3 => ?_
          have hlt : j < ρB.length := (List.getElem?_eq_some_iff.mp er1).1
          have w4 : W (tab X c) H' (leaf' :: (slots (ρB.set j none) ++ (z :: R))) := w3.perm (perm_of fun f g h1 h2 h3 => by simp only [h1, h2]; omega)
          exact P1 z H' ez ⟨ρB.set j (some leaf'), by rw [erE_set, Option.map_some, el], mB.set fun _ => by rw [hv']; exact mB.at_ _ _ er1, w4.put hlt⟩
        · exact P1.elim
      · exact P1.elim
    · exact P.elim
  · exact P.elim
theorem fBmP_ok (sm : SimM (tab X c) Ty r kd g) (h : SEr X c (fBmP kd g fp fl) σ H Q) : SBr X c fp σ H fun v H1 => tyV X.K Ty v H1 ∧ SLr X c fl σ H1 fun vs H2 => r v vs H2 Q := by
  obtain ⟨ρ, R, I, P⟩ := h
  refine sb_then I P fun ip ρA H1 m1 w1 P1 => ?_
  split at P1
  · rename_i rt e1
    obtain ⟨root, er1, ert⟩ := erE_some e1
    subst ert
    rw [er_aget] at P1
    cases el : aget root ip.2 with
    | none => rw [el] at P1; exact P1.elim
    | some leaf =>
      rw [el] at P1
      simp only [Option.map_some] at P1
      split at P1
      · rename_i hcond
        simp only [Bool.and_eq_true] at hcond
        obtain ⟨hkd, hpo⟩ := hcond
        have w2 := w1.take er1
        obtain ⟨w3, ol⟩ := w2.focus el
        refine ⟨root, leaf, er1, el, sm.ty H1 leaf ol hkd, ?_⟩
        have I3 : SI X c σ H1 (erE (ρA.set ip.1 none)) (leaf :: aset root ip.2 (.hole (val leaf)) :: R) := ⟨_, rfl, m1.unset, w3.perm (perm_of fun f g h1 h2 h3 => by simp only [h1, h2]; omega)⟩
        rw [erE_set] at I3
        have hlt : ip.1 < ρA.length := (List.getElem?_eq_some_iff.mp er1).1
        refine ⟨_, _, I3, (Post.bind.mp P1).mono (fun H5 ρ5 i => i.drop.drop) fun ts ρ5 q5 rs H5 e5 I5 => ?_⟩
        obtain ⟨ρB, eB, mB, wB⟩ := I5
        subst eB
        subst e5
        split at q5
        · rename_i t lt eg
          have w6 : W (tab X c) H5 (leaf :: (rs ++ (aset root ip.2 (.hole (val leaf)) :: (slots ρB ++ R)))) := wB.perm (perm_of fun f g h1 h2 h3 => by simp only [h1, h2]; omega)
          refine sm.run H5 leaf rs _ t lt Q w6 eg fun z leaf' H' ez elt hv' w7 => ?_
          have w8 : W (tab X c) H' (leaf' :: aset root ip.2 (.hole (val leaf)) :: (slots ρB ++ (z :: R))) := w7.perm (perm_of fun f g h1 h2 h3 => by simp only [h1, h2]; omega)
          obtain ⟨w9, v9⟩ := W.unfocus el w8 hv' (.inr hpo)
          have hlB : ip.1 < ρB.length := by rw [mB.len, ← m1.len]; exact hlt
          exact q5 z H' ez ⟨ρB.set ip.1 (some (aset root ip.2 leaf')), by rw [erE_set, Option.map_some, er_aset, elt], mB.set fun _ => by rw [v9]; exact m1.at_ _ _ er1, w9.store hlB⟩
        · exact q5.elim
      · exact P1.elim
  · exact P1.elim
section
variable (pa : PlainAttrs Ty) (slot : Slot Ty name id) (hty : typeOf (.builtin id) = pure (.type "method_descriptor")) (hm : MtR X id r) (sm : SimM (tab X c) Ty r kd g)
include pa slot hty hm sm
theorem se_bmV (j : Nat) {x : Str} {p : Pos} (ha : SL X c (e :: es) fl) (hN : X.N[j]? = some x := by rfl) (hv : Vis X.env.scope x := by first | exact Or.inl rfl | exact Or.inr (Or.inl rfl) | exact Or.inr (Or.inr rfl)) (hd : (x == ("__debug__" : Str)) = false := by decide)
    (hcd : (x == ("__classdict__" : Str)) = false := by decide)
    (hbase : attributeBase (.Name x p) name X.env (eval (.Name x p) X.env) = eval (.Name x p) X.env := by rfl)
    (hfew : ((backTo cpos (starEach (e :: es) X.env)).all (fun x => !x.1) && (backToKw cpos (keywordEach [] X.env)).all (fun x => x.1.isSome)
      && decide ((e :: es).length + ([] : List Keyword).length + (if ([] : List Keyword).isEmpty then 0 else 1) < 30)) = true := by rfl)
    (hline : (apos.endLine == cpos.line) = true := by rfl) (hs : starEach (e :: es) X.env = (false, eval e X.env) :: starEach es X.env := by rfl) (hplain : (backTo cpos (starEach es X.env)).any (·.1) = false := by rfl) :
    SE X c (.Call (.Attribute (.Name x p) name apos) (e :: es) [] cpos) (fBmV kd g j fl) := pe_imp (pe_bm pa slot hty hm (pe_var hN hv hd hcd) ha hbase hfew hline hs hplain) fun σ H Q h => by
  obtain ⟨v, e1, e2, e3⟩ := fBmV_ok sm h
  exact ⟨v, e1, e2, e3⟩
theorem se_bmV0 (j : Nat) {x : Str} {p : Pos} (hN : X.N[j]? = some x := by rfl) (hv : Vis X.env.scope x := by first | exact Or.inl rfl | exact Or.inr (Or.inl rfl) | exact Or.inr (Or.inr rfl)) (hd : (x == ("__debug__" : Str)) = false := by decide)
    (hcd : (x == ("__classdict__" : Str)) = false := by decide)
    (hbase : attributeBase (.Name x p) name X.env (eval (.Name x p) X.env) = eval (.Name x p) X.env := by rfl) (hline : (apos.endLine == cpos.line) = true := by rfl) :
    SE X c (.Call (.Attribute (.Name x p) name apos) [] [] cpos) (fBmV kd g j fNil) := pe_imp (pe_bm0 pa slot hty hm (pe_var hN hv hd hcd) hbase hline) fun σ H Q h => by
  obtain ⟨v, e1, e2, ρ, R, I, P⟩ := fBmV_ok sm h
  exact ⟨v, e1, e2, P [] H rfl I⟩
theorem se_bmP (ho : SB X c o fp) (ha : SL X c (e :: es) fl)
    (hbase : attributeBase o name X.env (eval o X.env) = eval o X.env := by rfl)
    (hfew : ((backTo cpos (starEach (e :: es) X.env)).all (fun x => !x.1) && (backToKw cpos (keywordEach [] X.env)).all (fun x => x.1.isSome)
      && decide ((e :: es).length + ([] : List Keyword).length + (if ([] : List Keyword).isEmpty then 0 else 1) < 30)) = true := by rfl)
    (hline : (apos.endLine == cpos.line) = true := by rfl) (hs : starEach (e :: es) X.env = (false, eval e X.env) :: starEach es X.env := by rfl) (hplain : (backTo cpos (starEach es X.env)).any (·.1) = false := by rfl) :
    SE X c (.Call (.Attribute o name apos) (e :: es) [] cpos) (fBmP kd g fp fl) := pe_imp (pe_bm pa slot hty hm ho ha hbase hfew hline hs hplain) fun σ H Q h => fBmP_ok sm h
theorem se_bmP0 (ho : SB X c o fp)
    (hbase : attributeBase o name X.env (eval o X.env) = eval o X.env := by rfl) (hline : (apos.endLine == cpos.line) = true := by rfl) :
    SE X c (.Call (.Attribute o name apos) [] [] cpos) (fBmP kd g fp fNil) := pe_imp (pe_bm0 pa slot hty hm ho hbase hline) fun σ H Q h => by
  obtain ⟨ρ, R, I, P⟩ := fBmP_ok sm h
  refine ⟨ρ, R, I, P.mono (fun _ _ i => i) fun ip ρ1 q ρA H1 e m w => ?_⟩
  obtain ⟨root, leaf, g1, g2, ty, ρ2, R2, I2, P2⟩ := q ρA H1 e m w
  exact ⟨root, leaf, g1, g2, ty, P2 [] H1 rfl I2⟩
end
end
def isLst : T → Bool
  | .nd (.lst _) _ => true
  | _ => false
def isDct : T → Bool
  | .nd (.dct _ _) _ => true
  | _ => false
theorem ty_lst {B : Tab} (H : Hp) (x : A) (ok : Ok B H x) (h : isLst (er x) = true) : tyV B.K "list" (val x) H := by
  cases x with
  | nd k w a dx xs =>
    rw [er] at h
    cases k with
    | lst m =>
      exact .inl ⟨rfl, xs.map val, .of ok.1.2⟩
    | _ => cases h
  | _ => cases h
theorem ty_dct {B : Tab} (H : Hp) (x : A) (ok : Ok B H x) (h : isDct (er x) = true) : tyV B.K "dict" (val x) H := by
  cases x with
  | nd k w a dx xs =>
    rw [er] at h
    cases k with
    | dct m ks =>
      obtain ⟨⟨_, _, _, hh⟩, _⟩ := ok
      exact .inr (.inr (.inl ⟨rfl, .inl ⟨_, hh⟩⟩))
    | _ => cases h
  | _ => cases h
/-- a list's method: how the children come out of the old ones and the arguments -/
theorem lst_step {B : Tab} {H : Hp} {a dx : Addr} {xs ys rs res S : List A} (w : W B H (.nd (.lst true) false a dx xs :: (rs ++ S))) (hp : ∃ l, (xs ++ rs).Perm (l ++ (ys ++ res))) : W B (upd H a (.lst (ys.map val))) (.nd (.lst true) false a dx ys :: (res ++ S)) :=
  chg_of w rfl rfl (by
    obtain ⟨l, p⟩ := hp
    refine ⟨l, ?_⟩
    have := p.append_right S
    simp only [List.append_assoc] at this
    exact this) ⟨rfl, upd_same⟩
def mAppend : T → List T → Option (T × T)
  | .nd (.lst true) xs, [t] => if xs.length < sizeLine then some (.non, .nd (.lst true) (xs ++ [t])) else none
  | _, _ => none
theorem er_one {rs : List A} {t : T} (h : erL rs = [t]) : ∃ r, rs = [r] ∧ er r = t := by
  cases rs with
  | nil => cases h
  | cons r rs =>
    cases rs with
    | nil => exact ⟨r, rfl, (List.cons.inj h).1⟩
    | cons _ _ => exact absurd (congrArg List.length h) (by simp [erL])
theorem er_two {rs : List A} {t u : T} (h : erL rs = [t, u]) : ∃ r s, rs = [r, s] ∧ er r = t ∧ er s = u := by
  cases rs with
  | nil => cases h
  | cons r rs =>
    rw [erL] at h
    obtain ⟨h1, h2⟩ := List.cons.inj h
    obtain ⟨s, rfl, h3⟩ := er_one h2
    exact ⟨r, s, rfl, h1, h3⟩
theorem er_nil {rs : List A} (h : erL rs = []) : rs = [] := by
  cases rs with
  | nil => rfl
  | cons r rs => cases h
theorem er_olst {x : A} {xs : List T} {B : Tab} {H : Hp} (h : er x = .nd (.lst true) xs) (ok : Ok B H x) : ∃ a dx ys, x = .nd (.lst true) false a dx ys ∧ erL ys = xs ∧ H a = some (.lst (ys.map val)) := by
  cases x with
  | nd k w a dx ys =>
    rw [er] at h
    injection h with h1 h2
    subst h1
    obtain ⟨⟨rfl, hh⟩, _⟩ := ok
    exact ⟨a, dx, ys, rfl, h2, hh⟩
  | _ => cases h
theorem sim_append {B : Tab} : SimM B "list" rAppend isLst mAppend := ⟨ty_lst, fun H leaf rs S t lt Q w g k => by
  unfold mAppend at g
  split at g
  · rename_i xs u e1 e2
    split at g
    · rename_i hl
      cases g
      obtain ⟨a, dx, ys, rfl, rfl, hh⟩ := er_olst e1 w.head
      obtain ⟨r, rfl, rfl⟩ := er_one e2
      refine ⟨a, ys.map val, val r, rfl, rfl, hh, by rw [List.length_map, ← len_erL]; exact hl, ?_⟩
      have w2 := lst_step (ys := ys ++ [r]) (res := []) w ⟨[], by simp⟩
      rw [List.map_append] at w2
      exact k .non (.nd (.lst true) false a dx (ys ++ [r])) _ rfl (by rw [er, erL_map, erL_map, List.map_append]; rfl) rfl w2.non.swap
    · cases g
  · cases g⟩
end Tr
end

section
set_option Elab.async false
set_option linter.all false
set_option autoImplicit false
set_option maxRecDepth 100000
/-! Operations by values. -/
namespace Tr
open PySem PySem.Spec PyProof.Rows L2

/-! ### what a node is -/
section
variable {B : Tab} {H : Hp} {x : A}
theorem er_nd {k : NK} {xs : List T} (h : er x = .nd k xs) : ∃ w a dx ys, x = .nd k w a dx ys ∧ erL ys = xs := by
  cases x with
  | nd k' w a dx ys =>
    rw [er] at h
    injection h with h1 h2
    subst h1
    exact ⟨w, a, dx, ys, rfl, h2⟩
  | _ => cases h
theorem er_str {s : Str} (h : er x = .str s) : x = .str s := by
  cases x with
  | str j => rw [er] at h; injection h with h; rw [h]
  | _ => cases h
theorem er_bl {b : Bool} (h : er x = .bl b) : x = .bl b := by
  cases x with
  | bl j => rw [er] at h; injection h with h; rw [h]
  | _ => cases h
theorem sqT {w : Bool} {a dx : Addr} {ys : List A} (ok : Ok B H (.nd .tup w a dx ys)) : SqT B.K H a (ys.map val) := by
  cases w with
  | true => exact ok.1 H
  | false => exact .of ok.1
theorem sqL {m w : Bool} {a dx : Addr} {ys : List A} (ok : Ok B H (.nd (.lst m) w a dx ys)) : SqL B.K H a (ys.map val) := .of ok.1.2
theorem sqS {w : Bool} {a dx : Addr} {ys : List A} (ok : Ok B H (.nd .scr w a dx ys)) : SqL B.K H a (ys.map val) := by
  cases w with
  | true => exact ok.1 H
  | false =>
    obtain ⟨⟨o, h⟩, _⟩ := ok
    exact .inl (.inr ⟨o, h⟩)
end

/-! ### predicates of two values -/
def SimP (B : Tab) (r : R2) (g : T → T → Option Bool) : Prop := ∀ (H : Hp) (x y : A) (b : Bool) (Q : VK), Ok B H x → Ok B H y → g (er x) (er y) = some b → Q (.bl b) H → r (val x) (val y) H Q
theorem SimP.sim2 {B : Tab} {r : R2} {g : T → T → Option Bool} (h : SimP B r g) : Sim2 B r (fun x y => (g x y).map T.bl) := fun H x y R t Q w e hz => by
  dsimp only at e
  cases eg : g (er x) (er y) with
  | none => rw [eg] at e; cases e
  | some b =>
    rw [eg] at e
    cases e
    exact h H x y b Q w.drop.head w.head eg (hz (.bl b) H rfl w.drop.drop.bl)
section
variable {X : Cx} {c : Cu} {a b : Expr} {pos : Pos} {fa fb : M T} {fp : M (Nat × List Nat)} {g : T → T → Option Bool} {op : CmpOp} {r : R2}
/-- a comparison as a test -/
def cC (g : T → T → Option Bool) (fa fb : M T) : M Bool := fa.bind fun x => fb.bind fun y => lift (g x y)
theorem sc_cmpP (ho : OpR X (compareOp op) r) (S : SimP (tab X c) r g) (ha : SE X c a fa) (hb : SE X c b fb) (hm : behindInMarks op b = false) : SC X c (.Compare a [op] [b] pos) (cC g fa fb) :=
  pt_imp (pt_cmpR ho ha hb hm) fun σ H Q h => by
    obtain ⟨ρ, R, I, P⟩ := h
    refine se_then I P fun x H1 ρ1 I1 P1 => ?_
    refine se_then (R := x :: R) I1 P1.more fun y H2 ρ2 I2 P2 => ?_
    obtain ⟨k, e, q⟩ := P2.lift
    obtain ⟨ρA, eA, m, w⟩ := id I2
    have o := okL_append.mp w.ok
    exact S H2 x y k _ o.2.2.1 o.2.1 e ⟨k, rfl, q H2 I2.drop.drop⟩
def vC (g : T → T → Option Bool) (fa fb : M T) : M T := f2 (fun x y => (g x y).map T.bl) fa fb
theorem se_cmpP (ho : OpR X (compareOp op) r) (S : SimP (tab X c) r g) (ha : SE X c a fa) (hb : SE X c b fb) (hm : behindInMarks op b = false) : SE X c (.Compare a [op] [b] pos) (vC g fa fb) := se_cmp ho S.sim2 ha hb hm
/-- the right one a place: its content is not touched -/
def plB (g : T → T → Option Bool) (x : T) (ip : Nat × List Nat) : M Bool := fun ρ => match ρ[ip.1]? with
  | some (some r) => match r.get ip.2 with
    | some l => match g x l with
      | some b => .ok b ρ
      | none => .bad
    | none => .bad
  | _ => .bad
def cB (g : T → T → Option Bool) (fa : M T) (fp : M (Nat × List Nat)) : M Bool := fa.bind fun x => fp.bind fun ip => plB g x ip
theorem plB_ok {σ : L2.St} {H : Hp} {R : List A} {ip : Nat × List Nat} {ρA : AEnv} {x : T} {K : Bool → Env → Prop} (w : W (tab X c) H (slots ρA ++ R)) (P : Post X c σ R K (plB g x ip (erE ρA))) :
    ∃ root leaf k, ρA[ip.1]? = some (some root) ∧ aget root ip.2 = some leaf ∧ Ok (tab X c) H leaf ∧ g x (er leaf) = some k ∧ K k (erE ρA) := by
  unfold plB at P
  split at P
  · rename_i rt e1
    obtain ⟨root, er1, ert⟩ := erE_some e1
    subst ert
    rw [er_aget] at P
    cases el : aget root ip.2 with
    | none => rw [el] at P; exact P.elim
    | some leaf =>
      rw [el] at P
      simp only [Option.map_some] at P
      split at P
      · rename_i k ek
        exact ⟨root, leaf, k, er1, el, (w.take er1).at el, ek, P⟩
      · exact P.elim
  · exact P.elim
theorem sc_cmpB (ho : OpR X (compareOp op) r) (S : SimP (tab X c) r g) (ha : SE X c a fa) (hb : SB X c b fp) (hm : behindInMarks op b = false) : SC X c (.Compare a [op] [b] pos) (cB g fa fp) :=
  pt_imp (pt_cmpR ho ha hb hm) fun σ H Q h => by
    obtain ⟨ρ, R, I, P⟩ := h
    refine se_then I P fun x H1 ρ1 I1 P1 => ?_
    refine sb_then (R := x :: R) I1 P1.more fun ip ρA H2 m w P2 => ?_
    obtain ⟨root, leaf, k, g1, g2, ok, ek, q⟩ := plB_ok w P2
    refine ⟨root, leaf, g1, g2, S H2 x leaf k _ (okL_append.mp w.ok).2.1 ok ek ⟨k, rfl, q H2 ⟨ρA, rfl, m, w.mid.drop⟩⟩⟩
def vB (g : T → T → Option Bool) (fa : M T) (fp : M (Nat × List Nat)) : M T := (cB g fa fp).bind fun b => M.ret (.bl b)
theorem se_cmpB (ho : OpR X (compareOp op) r) (S : SimP (tab X c) r g) (ha : SE X c a fa) (hb : SB X c b fp) (hm : behindInMarks op b = false) : SE X c (.Compare a [op] [b] pos) (vB g fa fp) :=
  pe_imp (pe_cmpR ho ha hb hm) fun σ H Q h => by
    obtain ⟨ρ, R, I, P⟩ := h
    have P0 := Post.bind.mp P
    refine se_then I P0 fun x H1 ρ1 I1 P1 => ?_
    refine sb_then (R := x :: R) I1 P1.more fun ip ρA H2 m w P2 => ?_
    obtain ⟨root, leaf, k, g1, g2, ok, ek, q⟩ := plB_ok w P2
    refine ⟨root, leaf, g1, g2, S H2 x leaf k _ (okL_append.mp w.ok).2.1 ok ek ?_⟩
    exact q (.bl k) H2 rfl ⟨ρA, rfl, m, w.mid.drop.bl.toMid⟩
/-- x is None, x a place -/
def plU (g : T → Option Bool) (ip : Nat × List Nat) : M Bool := plB (fun _ t => g t) .non ip
def cN (neg : Bool) (fp : M (Nat × List Nat)) : M Bool := fp.bind fun ip => plU (fun t => match t with
  | .cst _ => none
  | .hole => none
  | .non => some (!neg)
  | _ => some neg) ip
theorem non_iff {x : A} {neg k : Bool} (h : (match er x with
  | .cst _ => none
  | .hole => none
  | .non => some (!neg)
  | _ => some neg) = some k) : k = (if neg then !decide (val x = .non) else decide (val x = .non)) := by
  cases x with
  | non => cases neg <;> (cases h; rfl)
  | cst v => cases h
  | hole v => cases h
  | _ => cases neg <;> (cases h; simp [val])
theorem sc_isN (hb : SB X c a fp) : ∀ {j p2}, SC X c (.Compare a [.Is] [.Constant .none j p2] pos) (cN false fp) := fun {j p2} =>
  pt_imp (pt_cmpR op_isN hb pe_non (nomark _)) fun σ H Q h => by
    obtain ⟨ρ, R, I, P⟩ := h
    refine sb_then I P fun ip ρA H2 m w P2 => ?_
    obtain ⟨root, leaf, k, g1, g2, ok, ek, q⟩ := plB_ok w P2
    refine ⟨root, leaf, g1, g2, rfl, k, ?_, q H2 ⟨ρA, rfl, m, w⟩⟩
    rw [non_iff ek]
    rfl
theorem sc_notN (hb : SB X c a fp) : ∀ {j p2}, SC X c (.Compare a [.IsNot] [.Constant .none j p2] pos) (cN true fp) := fun {j p2} =>
  pt_imp (pt_cmpR op_notN hb pe_non (nomark _)) fun σ H Q h => by
    obtain ⟨ρ, R, I, P⟩ := h
    refine sb_then I P fun ip ρA H2 m w P2 => ?_
    obtain ⟨root, leaf, k, g1, g2, ok, ek, q⟩ := plB_ok w P2
    refine ⟨root, leaf, g1, g2, rfl, k, ?_, q H2 ⟨ρA, rfl, m, w⟩⟩
    rw [non_iff ek]
    rfl
theorem se_isN (hb : SB X c a fp) : ∀ {j p2}, SE X c (.Compare a [.Is] [.Constant .none j p2] pos) ((cN false fp).bind fun b => M.ret (.bl b)) := fun {j p2} =>
  pe_imp (pe_cmpR op_isN hb pe_non (nomark _)) fun σ H Q h => by
    obtain ⟨ρ, R, I, P⟩ := h
    have P0 := Post.bind.mp P
    refine sb_then I P0 fun ip ρA H2 m w P2 => ?_
    obtain ⟨root, leaf, k, g1, g2, ok, ek, q⟩ := plB_ok w P2
    refine ⟨root, leaf, g1, g2, rfl, ?_⟩
    have := q (.bl k) H2 rfl ⟨ρA, rfl, m, w.bl.toMid⟩
    rw [non_iff ek] at this
    exact this
theorem se_notN (hb : SB X c a fp) : ∀ {j p2}, SE X c (.Compare a [.IsNot] [.Constant .none j p2] pos) ((cN true fp).bind fun b => M.ret (.bl b)) := fun {j p2} =>
  pe_imp (pe_cmpR op_notN hb pe_non (nomark _)) fun σ H Q h => by
    obtain ⟨ρ, R, I, P⟩ := h
    have P0 := Post.bind.mp P
    refine sb_then I P0 fun ip ρA H2 m w P2 => ?_
    obtain ⟨root, leaf, k, g1, g2, ok, ek, q⟩ := plB_ok w P2
    refine ⟨root, leaf, g1, g2, rfl, ?_⟩
    have := q (.bl k) H2 rfl ⟨ρA, rfl, m, w.bl.toMid⟩
    rw [non_iff ek] at this
    exact this
/-- .. of a value -/
def gIsN (neg : Bool) (t : T) : Option Bool := match t with
  | .cst _ => none
  | .hole => none
  | .non => some (!neg)
  | _ => some neg
theorem se_isNV (ha : SE X c a fa) : ∀ {j p2}, SE X c (.Compare a [.Is] [.Constant .none j p2] pos) (f1 (fun t => (gIsN false t).map T.bl) fa) := fun {j p2} =>
  pe_imp (pe_cmpR op_isN ha pe_non (nomark _)) fun σ H Q h => by
    refine f1_ok (r := fun x H Q => (V.non = .non ∧ Q (.bl (decide (x = .non))) H)) (fun H x R t Q w e hz => ⟨rfl, ?_⟩) h
    cases eg : gIsN false (er x) with
    | none => rw [eg] at e; cases e
    | some b =>
      rw [eg] at e
      cases e
      have := hz (.bl b) H rfl w.drop.bl
      rw [non_iff (neg := false) eg] at this
      exact this
theorem se_notNV (ha : SE X c a fa) : ∀ {j p2}, SE X c (.Compare a [.IsNot] [.Constant .none j p2] pos) (f1 (fun t => (gIsN true t).map T.bl) fa) := fun {j p2} =>
  pe_imp (pe_cmpR op_notN ha pe_non (nomark _)) fun σ H Q h => by
    refine f1_ok (r := fun x H Q => (V.non = .non ∧ Q (.bl (!decide (x = .non))) H)) (fun H x R t Q w e hz => ⟨rfl, ?_⟩) h
    cases eg : gIsN true (er x) with
    | none => rw [eg] at e; cases e
    | some b =>
      rw [eg] at e
      cases e
      have := hz (.bl b) H rfl w.drop.bl
      rw [non_iff (neg := true) eg] at this
      exact this
end

/-! ### == -/
mutual
def pd : T → Option PyData
  | .non => some .none
  | .bl b => some (.bool b)
  | .int i => some (.int i)
  | .str x => some (.str x)
  | .nd .tup xs => match pdL xs with
    | some ds => some (.tuple ds)
    | none => none
  | .nd (.lst _) xs => match pdL xs with
    | some ds => some (.list ds)
    | none => none
  | _ => none
def pdL : List T → Option (List PyData)
  | [] => some []
  | x :: xs => match pd x, pdL xs with
    | some d, some ds => some (d :: ds)
    | _, _ => none
end
mutual
theorem dp_of {B : Tab} {H : Hp} : ∀ (x : A) (d : PyData), Ok B H x → pd (er x) = some d → Dp B.K H (val x) d
  | .non, d, _, h => by rw [er, pd] at h; cases h; exact .non
  | .bl b, d, _, h => by rw [er, pd] at h; cases h; exact .bl b
  | .int b, d, _, h => by rw [er, pd] at h; cases h; exact .int b
  | .str b, d, _, h => by rw [er, pd] at h; cases h; exact .str b
  | .cst _, d, _, h => by simp [er, pd] at h
  | .hole _, d, _, h => by simp [er, pd] at h
  | .nd k w a dx ys, d, ok, h => by
    rw [er] at h
    cases k with
    | tup =>
      rw [pd] at h
      split at h
      · rename_i ds e
        cases h
        exact .tup (sqT ok) (dp_ofL ys ds ok.2.1 e)
      · cases h
    | lst m =>
      rw [pd] at h
      split at h
      · rename_i ds e
        cases h
        exact .lst (sqL ok) (dp_ofL ys ds ok.2.1 e)
      · cases h
    | _ => simp [pd] at h
theorem dp_ofL {B : Tab} {H : Hp} : ∀ (xs : List A) (ds : List PyData), OkL B H xs → pdL (erL xs) = some ds → DpAll B.K H (xs.map val) ds
  | [], ds, _, h => by rw [erL, pdL] at h; cases h; exact .nil
  | x :: xs, ds, ok, h => by
    rw [erL, pdL] at h
    split at h
    · rename_i d ds' e1 e2
      cases h
      exact .cons (dp_of x d ok.1 e1) (dp_ofL xs ds' ok.2 e2)
    · cases h
end
def gEq (x y : T) : Option Bool := match pd x, pd y with
  | some d, some e => if SeqAt.shaped d && SeqAt.shaped e then some (PyData.eqv d e) else none
  | _, _ => none
def gNe (x y : T) : Option Bool := (gEq x y).map (!·)
theorem gEq_of {x y : T} {b : Bool} (h : gEq x y = some b) : ∃ d e, pd x = some d ∧ pd y = some e ∧ SeqAt.shaped d = true ∧ SeqAt.shaped e = true ∧ b = PyData.eqv d e := by
  unfold gEq at h
  split at h
  · rename_i d e h1 h2
    split at h
    · rename_i hs
      simp only [Bool.and_eq_true] at hs
      exact ⟨d, e, h1, h2, hs.1, hs.2, (Option.some.inj h).symm⟩
    · cases h
  · cases h
theorem sim_eq {B : Tab} : SimP B (rEqD B.K) gEq := fun H x y b Q ox oy e q => by
  obtain ⟨d, e', h1, h2, h3, h4, rfl⟩ := gEq_of e
  exact ⟨d, e', dp_of x d ox h1, dp_of y e' oy h2, h3, h4, q⟩
theorem sim_ne {B : Tab} : SimP B (rNeD B.K) gNe := fun H x y b Q ox oy e q => by
  unfold gNe at e
  cases eg : gEq (er x) (er y) with
  | none => rw [eg] at e; cases e
  | some k =>
    rw [eg] at e
    cases e
    obtain ⟨d, e', h1, h2, h3, h4, rfl⟩ := gEq_of eg
    exact ⟨d, e', dp_of x d ox h1, dp_of y e' oy h2, h3, h4, q⟩
/-! ### order -/
def gLt : T → T → Option Bool
  | .int i, .int j => some (decide (i < j))
  | _, _ => none
def gLe : T → T → Option Bool
  | .int i, .int j => some (decide (i ≤ j))
  | _, _ => none
def gGt : T → T → Option Bool
  | .int i, .int j => some (decide (j < i))
  | _, _ => none
def gGe : T → T → Option Bool
  | .int i, .int j => some (decide (j ≤ i))
  | _, _ => none
theorem sim_ord {B : Tab} {p : Int → Int → Bool} {g : T → T → Option Bool} (hg : ∀ x y b, g x y = some b → ∃ i j, x = .int i ∧ y = .int j ∧ b = p i j) : SimP B (rI0 fun i j => .bl (p i j)) g := fun H x y b Q ox oy e q => by
  obtain ⟨i, j, h1, h2, rfl⟩ := hg _ _ _ e
  rw [er_int h1, er_int h2]
  exact ⟨i, j, rfl, rfl, q⟩
theorem sim_lt {B : Tab} : SimP B (rI0 fun i j => .bl (decide (i < j))) gLt := sim_ord fun x y b h => by
  unfold gLt at h
  split at h
  · cases h; exact ⟨_, _, rfl, rfl, rfl⟩
  · cases h
theorem sim_le {B : Tab} : SimP B (rI0 fun i j => .bl (decide (i ≤ j))) gLe := sim_ord fun x y b h => by
  unfold gLe at h
  split at h
  · cases h; exact ⟨_, _, rfl, rfl, rfl⟩
  · cases h
theorem sim_gt {B : Tab} : SimP B (rI0 fun i j => .bl (decide (j < i))) gGt := sim_ord (p := fun i j => decide (j < i)) fun x y b h => by
  unfold gGt at h
  split at h
  · cases h; exact ⟨_, _, rfl, rfl, rfl⟩
  · cases h
theorem sim_ge {B : Tab} : SimP B (rI0 fun i j => .bl (decide (j ≤ i))) gGe := sim_ord (p := fun i j => decide (j ≤ i)) fun x y b h => by
  unfold gGe at h
  split at h
  · cases h; exact ⟨_, _, rfl, rfl, rfl⟩
  · cases h

/-! ### arithmetic -/
theorem sim_ii {B : Tab} {C : Int → Int → Prop} {p : Int → Int → Int} {g : T → T → Option T} (hg : ∀ x y t, g x y = some t → ∃ i j, x = .int i ∧ y = .int j ∧ C i j ∧ t = .int (p i j)) : Sim2 B (rI C fun i j => .int (p i j)) g := fun H x y R t Q w e hz => by
  obtain ⟨i, j, h1, h2, hc, rfl⟩ := hg _ _ _ e
  rw [er_int h1, er_int h2]
  exact ⟨i, j, rfl, rfl, hc, hz (.int _) H rfl w.drop.drop.int⟩
def gSub : T → T → Option T
  | .int i, .int j => some (.int (i - j))
  | _, _ => none
theorem sim_sub {B : Tab} : Sim2 B (rI0 fun i j => .int (i - j)) gSub := fun H x y R t Q w e hz => by
  unfold gSub at e
  split at e
  · rename_i i j h1 h2
    cases e
    rw [er_int h1, er_int h2]
    exact ⟨i, j, rfl, rfl, hz (.int _) H rfl w.drop.drop.int⟩
  · cases e
def gMod : T → T → Option T
  | .int i, .int j => if 0 < j then some (.int (i % j)) else none
  | _, _ => none
theorem sim_mod {B : Tab} : Sim2 B (rI (fun _ j => 0 < j) fun i j => .int (i % j)) gMod := sim_ii fun x y t h => by
  unfold gMod at h
  split at h
  · split at h
    · cases h; exact ⟨_, _, rfl, rfl, by assumption, rfl⟩
    · cases h
  · cases h
def gDiv : T → T → Option T
  | .int i, .int j => if 0 < j ∧ j.natAbs.log2 < 9000 then some (.int (i / j)) else none
  | _, _ => none
theorem sim_div {B : Tab} : Sim2 B (rI CDivW fun i j => .int (i / j)) gDiv := sim_ii fun x y t h => by
  unfold gDiv at h
  split at h
  · split at h
    · rename_i hc; cases h; exact ⟨_, _, rfl, rfl, hc, rfl⟩
    · cases h
  · cases h
def gPow : T → T → Option T
  | .int i, .int j => if 0 ≤ j ∧ j ≤ 1000000 ∧ i.natAbs < 2 ^ 64 then some (.int (i ^ j.toNat)) else none
  | _, _ => none
theorem sim_pow {B : Tab} : Sim2 B (rI CPow fun i j => .int (i ^ j.toNat)) gPow := sim_ii fun x y t h => by
  unfold gPow at h
  split at h
  · split at h
    · rename_i hc; cases h; exact ⟨_, _, rfl, rfl, hc, rfl⟩
    · cases h
  · cases h
/-- + of ints, texts, lists, tuples -/
def gAdd : T → T → Option T
  | .int i, .int j => some (.int (i + j))
  | .str i, .str j => if i.length + j.length ≤ sizeLine then some (.str (i ++ j)) else none
  | .nd (.lst _) xs, .nd (.lst _) ys => if xs.length + ys.length ≤ sizeLine then some (.nd (.lst true) (xs ++ ys)) else none
  | .nd .tup xs, .nd .tup ys => if xs.length + ys.length ≤ sizeLine then some (.nd .tup (xs ++ ys)) else none
  | _, _ => none
def rAddA (K : PySem.W.Frag) : R2 := fun x y H Q => (rI0 (fun i j => .int (i + j)) x y H Q) ∨ (∃ i j, x = .str i ∧ y = .str j ∧ i.length + j.length ≤ sizeLine ∧ Q (.str (i ++ j)) H) ∨ rCat x y H Q ∨ rCatA K x y H Q
theorem op_addA {X : Cx} : OpR X (binaryOp .Add) (rAddA X.K) := op_add.or (op_add_str.or (op_cat.or op_catA))
theorem own_tup {B : Tab} {H : Hp} {w : Bool} {a dx : Addr} {ys : List A} (ok : Ok B H (.nd .tup w a dx ys)) : ownL ys = [] := ok.2.2 rfl
theorem sim_add {B : Tab} : Sim2 B (rAddA B.K) gAdd := fun H x y R t Q w e hz => by
  have ox := w.drop.head
  have oy := w.head
  unfold gAdd at e
  split at e
  · rename_i i j h1 h2
    cases e
    rw [er_int h1, er_int h2]
    exact .inl ⟨i, j, rfl, rfl, hz (.int _) H rfl w.drop.drop.int⟩
  · rename_i i j h1 h2
    split at e
    · rename_i hl
      cases e
      rw [er_str h1, er_str h2]
      exact .inr (.inl ⟨i, j, rfl, rfl, hl, hz (.str _) H rfl w.drop.drop.str⟩)
    · cases e
  · rename_i m1 xs m2 ys h1 h2
    split at e
    · rename_i hl
      cases e
      obtain ⟨w1, a1, d1, zs, rfl, rfl⟩ := er_nd h1
      obtain ⟨w2, a2, d2, us, rfl, rfl⟩ := er_nd h2
      rw [len_erL, len_erL] at hl
      refine .inr (.inr (.inl ⟨a1, a2, zs.map val, us.map val, rfl, rfl, ox.1.2, oy.1.2, by rw [List.length_map, List.length_map]; exact hl, fun p hp => ?_⟩))
      have wa : W B H (us ++ (.nd (.lst m1) w1 a1 d1 zs :: R)) := W.open w
      have wb : W B H (zs ++ (us ++ R)) := W.open wa.mid
      rw [← List.map_append]
      have wc : W B (upd H p (.lst ((zs ++ us).map val))) (.nd (.lst true) false p 0 (zs ++ us) :: R) := W.node (xs := zs ++ us) (by rw [List.append_assoc]; exact wb) hp ⟨rfl, upd_same⟩ (fun _ _ _ q => nomatch q) fun q => nomatch q
      exact hz _ _ (by rw [er, erL_map, erL_map, erL_map, List.map_append]) wc
    · cases e
  · rename_i xs ys h1 h2
    split at e
    · rename_i hl
      cases e
      obtain ⟨w1, a1, d1, zs, rfl, rfl⟩ := er_nd h1
      obtain ⟨w2, a2, d2, us, rfl, rfl⟩ := er_nd h2
      rw [len_erL, len_erL] at hl
      refine .inr (.inr (.inr ⟨a1, a2, zs.map val, us.map val, rfl, rfl, sqT ox, sqT oy, by rw [List.length_map, List.length_map]; exact hl, fun ez => ?_, fun _ ez => ?_, fun _ _ p hp => ?_⟩))
      · have : zs = [] := by simpa using ez
        subst this
        exact hz (.nd .tup w2 a2 d2 us) H rfl w.swap.drop
      · have : us = [] := by simpa using ez
        subst this
        exact hz (.nd .tup w1 a1 d1 zs) H (by rw [er, erL, List.append_nil]) w.drop
      · have wa : W B H (us ++ (.nd .tup w1 a1 d1 zs :: R)) := W.open w
        have wb : W B H (zs ++ (us ++ R)) := W.open wa.mid
        rw [← List.map_append]
        have wc : W B (upd H p (.tup ((zs ++ us).map val))) (.nd .tup false p 0 (zs ++ us) :: R) := W.node (xs := zs ++ us) (by rw [List.append_assoc]; exact wb) hp (by show upd H p _ p = _; rw [upd_same]) (fun _ _ _ q => nomatch q) fun _ => by rw [ownL_append, own_tup ox, own_tup oy]; rfl
        exact hz _ _ (by rw [er, erL_map, erL_map, erL_map, List.map_append]) wc
    · cases e
  · cases e
/-- * of ints, of a list or a tuple and an int (the items atoms) -/
def atoms (xs : List T) : Bool := xs.all fun t => (atomV t).isSome
def gMul : T → T → Option T
  | .int i, .int j => if (-(2 ^ 64) < i ∧ i < 2 ^ 64) ∨ (-(2 ^ 64) < j ∧ j < 2 ^ 64) then some (.int (i * j)) else none
  | .nd (.lst _) xs, .int k => if -(2 ^ 63) ≤ k ∧ k < 2 ^ 63 ∧ xs.length * k.toNat ≤ sizeLine ∧ atoms xs then some (.nd (.lst true) (List.replicate k.toNat xs).flatten) else none
  | _, _ => none
def rMulA : R2 := fun x y H Q => rI CMul (fun i j => .int (i * j)) x y H Q ∨ rRep x y H Q
theorem op_mulA {X : Cx} : OpR X (binaryOp .Mult) rMulA := op_mul.or op_rep
theorem atom_a {r : A} (h : (atomV (er r)).isSome = true) : own r = [] ∧ frz r = [] ∧ ∀ B H, Ok B H r := by
  cases r with
  | non => exact ⟨rfl, rfl, fun _ _ => trivial⟩
  | bl _ => exact ⟨rfl, rfl, fun _ _ => trivial⟩
  | int _ => exact ⟨rfl, rfl, fun _ _ => trivial⟩
  | str _ => exact ⟨rfl, rfl, fun _ _ => trivial⟩
  | _ => cases h
theorem W.atoms {B : Tab} {H : Hp} {R : List A} (h : W B H R) : ∀ {xs : List A}, Tr.atoms (erL xs) = true → W B H (xs ++ R)
  | [], _ => h
  | x :: xs, e => by
    rw [erL] at e
    simp only [Tr.atoms, List.all_cons, Bool.and_eq_true] at e
    obtain ⟨a1, a2, a3⟩ := atom_a e.1
    exact (W.atoms h e.2).atom a1 a2 (a3 B H)
theorem atoms_rep {xs : List T} (h : atoms xs = true) (n : Nat) : atoms (List.replicate n xs).flatten = true := by
  unfold atoms at h ⊢
  rw [List.all_eq_true] at h ⊢
  intro t ht
  obtain ⟨l, hl, ht⟩ := List.mem_flatten.mp ht
  rw [(List.mem_replicate.mp hl).2] at ht
  exact h t ht
theorem flat_rep {α β : Type} (f : α → β) (xs : List α) : ∀ n, ((List.replicate n xs).flatten).map f = (List.replicate n (xs.map f)).flatten
  | 0 => rfl
  | n + 1 => by rw [List.replicate_succ, List.flatten_cons, List.map_append, flat_rep f xs n, List.replicate_succ, List.flatten_cons]
theorem sim_mul {B : Tab} : Sim2 B rMulA gMul := fun H x y R t Q w e hz => by
  have ox := w.drop.head
  unfold gMul at e
  split at e
  · rename_i i j h1 h2
    split at e
    · rename_i hc
      cases e
      rw [er_int h1, er_int h2]
      exact .inl ⟨i, j, rfl, rfl, hc, hz (.int _) H rfl w.drop.drop.int⟩
    · cases e
  · rename_i m xs k h1 h2
    split at e
    · rename_i hc
      obtain ⟨c1, c2, c3, c4⟩ := hc
      cases e
      obtain ⟨w1, a1, d1, zs, rfl, rfl⟩ := er_nd h1
      rw [er_int h2]
      rw [len_erL] at c3
      refine .inr ⟨a1, k, zs.map val, rfl, rfl, ox.1.2, c1, c2, by rw [List.length_map]; exact c3, fun p hp => ?_⟩
      have c5 := atoms_rep c4 k.toNat
      rw [erL_map, ← flat_rep, ← erL_map] at c5
      have wa : W B H ((List.replicate k.toNat zs).flatten ++ R) := W.atoms w.drop.drop c5
      rw [← flat_rep]
      have wc := W.node (k := .lst true) (p := p) (dx := 0) (o := .lst ((List.replicate k.toNat zs).flatten.map val)) wa hp ⟨rfl, upd_same⟩ (fun _ _ _ q => nomatch q) fun q => nomatch q
      exact hz _ _ (by rw [er, erL_map, erL_map, flat_rep]) wc
    · cases e
  · cases e

/-! ### in -/
def flatT : T → Bool
  | .non => true
  | .bl _ => true
  | .int _ => true
  | .str _ => true
  | _ => false
def toV : T → V
  | .non => .non
  | .bl b => .bl b
  | .int i => .int i
  | .str x => .str x
  | _ => .non
/-- x in a list or tuple of flat things, in a text, in a dict -/
def gIn : T → T → Option Bool
  | x, .nd .tup ys => if flatT x && ys.all flatT then some (inV (toV x) (ys.map toV)) else none
  | x, .nd (.lst _) ys => if flatT x && ys.all flatT then some (inV (toV x) (ys.map toV)) else none
  | x, .nd (.dct _ ks) _ => (keyT x).map fun k => (kpos k ks).isSome
  | .str i, .str j => some (!(Builtin.Str.occurrences j i 0 j.length 1).isEmpty)
  | _, _ => none
def gNotIn (x y : T) : Option Bool := (gIn x y).map (!·)
def rInDk (neg : Bool) : R2 := fun x y H Q => ∃ a o, y = .ref a ∧ DGet H a x o ∧ Q (.bl (if neg then !o.isSome else o.isSome)) H
theorem op_inDk {X : Cx} (hu : X.A.units + 1 < cLine) : OpR X (compareOp .In) (rInDk false) := by
  intro pins s σ H x y v u Q I rx ry h
  obtain ⟨a, o, rfl, g, q⟩ := h
  cases ry
  exact d_in hu I g rx fun s3 I3 => ⟨.bl o.isSome, H, I3, rfl, q⟩
theorem op_notinDk {X : Cx} (hu : X.A.units + 1 < cLine) : OpR X (compareOp .NotIn) (rInDk true) := by
  intro pins s σ H x y v u Q I rx ry h
  obtain ⟨a, o, rfl, g, q⟩ := h
  cases ry
  exact d_notIn hu I g rx fun s3 I3 => ⟨.bl (!o.isSome), H, I3, rfl, q⟩
def rInA (K : PySem.W.Frag) : R2 := fun x y H Q => rIn K false x y H Q ∨ rInDk false x y H Q ∨ ∃ i j, x = .str i ∧ y = .str j ∧ Q (.bl (!(Builtin.Str.occurrences j i 0 j.length 1).isEmpty)) H
def rNotInA (K : PySem.W.Frag) : R2 := fun x y H Q => rIn K true x y H Q ∨ rInDk true x y H Q ∨ ∃ i j, x = .str i ∧ y = .str j ∧ Q (.bl (!(!(Builtin.Str.occurrences j i 0 j.length 1).isEmpty))) H
theorem op_inA {X : Cx} (hu : X.A.units + 1 < cLine) : OpR X (compareOp .In) (rInA X.K) := op_in_seq.or ((op_inDk hu).or op_in_str)
theorem op_notinA {X : Cx} (hu : X.A.units + 1 < cLine) : OpR X (compareOp .NotIn) (rNotInA X.K) := op_notIn_seq.or ((op_notinDk hu).or op_notIn_str)
theorem flat_val {x : A} (h : flatT (er x) = true) : val x = toV (er x) ∧ flatV (val x) = true := by
  cases x <;> first | exact ⟨rfl, rfl⟩ | (cases h)
theorem flat_vals : ∀ {xs : List A}, (erL xs).all flatT = true → xs.map val = (erL xs).map toV ∧ (xs.map val).all flatV = true
  | [], _ => ⟨rfl, rfl⟩
  | x :: xs, h => by
    rw [erL, List.all_cons, Bool.and_eq_true] at h
    obtain ⟨a1, a2⟩ := flat_val h.1
    obtain ⟨b1, b2⟩ := flat_vals h.2
    rw [List.map_cons, List.all_cons, a2, b2, erL, List.map_cons, b1, a1]
    exact ⟨rfl, rfl⟩
theorem sim_in_of {B : Tab} {H : Hp} {x y : A} {b : Bool} (ox : Ok B H x) (oy : Ok B H y) (e : gIn (er x) (er y) = some b) (Q : VK) : (Q (.bl b) H → rInA B.K (val x) (val y) H Q) ∧ (Q (.bl (!b)) H → rNotInA B.K (val x) (val y) H Q) := by
  unfold gIn at e
  split at e
  · rename_i ys h2
    split at e
    · rename_i hf
      rw [Bool.and_eq_true] at hf
      cases e
      obtain ⟨w2, a2, d2, us, rfl, rfl⟩ := er_nd h2
      obtain ⟨p1, p2⟩ := flat_val hf.1
      obtain ⟨q1, q2⟩ := flat_vals hf.2
      rw [← p1, ← q1]
      exact ⟨fun q => .inl ⟨a2, _, rfl, .inr (sqT oy), p2, q2, q⟩, fun q => .inl ⟨a2, _, rfl, .inr (sqT oy), p2, q2, q⟩⟩
    · cases e
  · rename_i m ys h2
    split at e
    · rename_i hf
      rw [Bool.and_eq_true] at hf
      cases e
      obtain ⟨w2, a2, d2, us, rfl, rfl⟩ := er_nd h2
      obtain ⟨p1, p2⟩ := flat_val hf.1
      obtain ⟨q1, q2⟩ := flat_vals hf.2
      rw [← p1, ← q1]
      exact ⟨fun q => .inl ⟨a2, _, rfl, .inl (sqL oy), p2, q2, q⟩, fun q => .inl ⟨a2, _, rfl, .inl (sqL oy), p2, q2, q⟩⟩
    · cases e
  · rename_i m ks vs h2
    cases ek : keyT (er x) with
    | none => rw [ek] at e; cases e
    | some k =>
      rw [ek] at e
      cases e
      obtain ⟨w2, a2, d2, us, rfl, rfl⟩ := er_nd h2
      obtain ⟨⟨_, hl, hn, hh⟩, _⟩ := oy
      have g := DGet.k (k := k) hh
      rw [valV_zip hl] at g
      have eo : ((kpos k ks).bind fun j => (us.map val)[j]?).isSome = (kpos k ks).isSome := by
        cases ej : kpos k ks with
        | none => rfl
        | some j =>
          have := (List.getElem?_eq_some_iff.mp (kpos_some ej)).1
          rw [hl] at this
          simp only [Option.bind_some, Option.isSome_some]
          rw [List.getElem?_eq_getElem this]
          rfl
      dsimp only
      rw [← eo, kV_of ek rfl]
      exact ⟨fun q => .inr (.inl ⟨a2, _, rfl, g, q⟩), fun q => .inr (.inl ⟨a2, _, rfl, g, q⟩)⟩
  · rename_i i j h1 h2
    cases e
    rw [er_str h1, er_str h2]
    exact ⟨fun q => .inr (.inr ⟨i, j, rfl, rfl, q⟩), fun q => .inr (.inr ⟨i, j, rfl, rfl, q⟩)⟩
  · cases e
theorem sim_in {B : Tab} : SimP B (rInA B.K) gIn := fun H x y b Q ox oy e q => (sim_in_of ox oy e Q).1 q
theorem sim_notin {B : Tab} : SimP B (rNotInA B.K) gNotIn := fun H x y b Q ox oy e q => by
  unfold gNotIn at e
  cases eg : gIn (er x) (er y) with
  | none => rw [eg] at e; cases e
  | some k => rw [eg] at e; cases e; exact (sim_in_of ox oy eg Q).2 q
end Tr
end

section
set_option Elab.async false
set_option linter.all false
set_option autoImplicit false
set_option maxRecDepth 100000
/-! Tests, built-in functions, slices, displays. -/
namespace Tr
open PySem PySem.Spec PyProof.Rows L2

theorem W.lst {B : Tab} {H : Hp} {R xs : List A} {p : Addr} (h : W B H (xs ++ R)) (hp : H p = none) : W B (upd H p (.lst (xs.map val))) (.nd (.lst true) false p 0 xs :: R) :=
  W.node h hp ⟨rfl, upd_same⟩ (fun _ _ _ q => nomatch q) fun q => nomatch q
theorem W.tup {B : Tab} {H : Hp} {R xs : List A} {p : Addr} (h : W B H (xs ++ R)) (hp : H p = none) (ho : ownL xs = []) : W B (upd H p (.tup (xs.map val))) (.nd .tup false p 0 xs :: R) :=
  W.node (k := .tup) h hp (by show upd H p _ p = _; rw [upd_same]) (fun _ _ _ q => nomatch q) fun _ => ho
section
variable {X : Cx} {c : Cu} {a b e : Expr} {rest : List Expr} {pos : Pos} {fa fb : M Bool} {ga gb : M T}
/-! ### and, or, not -/
def bAnd (fa fb : M Bool) : M Bool := fa.bind fun x => if x then fb else M.ret false
def bOr (fa fb : M Bool) : M Bool := fa.bind fun x => if x then M.ret true else fb
def bNot (fa : M Bool) : M Bool := fa.bind fun x => M.ret (!x)
theorem sw_pt (h : SW X c a fa) : SC X c a fa := PW.pt h
theorem sw_and1 (ha : SC X c a fa) : SW X c (.BoolOp .And [a] pos) fa := pw_and1 ha
theorem sw_or1 (ha : SC X c a fa) : SW X c (.BoolOp .Or [a] pos) fa := pw_or1 ha
theorem sw_and (ha : SC X c a fa) (hb : SW X c (.BoolOp .And (b :: rest) pos) fb) : SW X c (.BoolOp .And (a :: b :: rest) pos) (bAnd fa fb) := pw_imp (pw_and ha hb) fun σ H Q h => by
  obtain ⟨ρ, R, I, P⟩ := h
  refine sc_then I P fun k H1 ρ1 I1 P1 => ?_
  cases k with
  | true => exact ⟨ρ1, R, I1, P1⟩
  | false => exact P1 H1 I1
theorem sw_or (ha : SC X c a fa) (hb : SW X c (.BoolOp .Or (b :: rest) pos) fb) : SW X c (.BoolOp .Or (a :: b :: rest) pos) (bOr fa fb) := pw_imp (pw_or ha hb) fun σ H Q h => by
  obtain ⟨ρ, R, I, P⟩ := h
  refine sc_then I P fun k H1 ρ1 I1 P1 => ?_
  cases k with
  | true => exact P1 H1 I1
  | false => exact ⟨ρ1, R, I1, P1⟩
theorem sc_not (ha : SC X c a fa) : SC X c (.UnaryOp .Not a pos) (bNot fa) := pt_imp (pt_not ha) fun σ H Q h => by
  obtain ⟨ρ, R, I, P⟩ := h
  exact sc_then I P fun k H1 ρ1 I1 P1 => P1 H1 I1
/-- as values -/
def vAnd (ga gb : M T) : M T := ga.bind fun t => match t with
  | .bl true => gb
  | .bl false => M.ret (.bl false)
  | _ => fun _ => .bad
def vOr (ga gb : M T) : M T := ga.bind fun t => match t with
  | .bl true => M.ret (.bl true)
  | .bl false => gb
  | _ => fun _ => .bad
def vNot (ga : M T) : M T := ga.bind fun t => match t with
  | .bl k => M.ret (.bl (!k))
  | _ => fun _ => .bad
theorem se_one {op : BoolOp} (h : SE X c a ga) : SE X c (.BoolOp op [a] pos) ga := pe_one h
theorem se_and (ha : SE X c a ga) (hb : SE X c (.BoolOp .And (b :: rest) pos) gb) : SE X c (.BoolOp .And (a :: b :: rest) pos) (vAnd ga gb) := pe_imp (pe_and ha hb) fun σ H Q h => by
  obtain ⟨ρ, R, I, P⟩ := h
  refine se_then I P fun x H1 ρ1 I1 P1 => ?_
  cases e : er x with
  | bl k =>
    rw [e] at P1
    rw [er_bl e]
    cases k with
    | true => exact ⟨true, rfl, by rw [if_pos rfl]; exact ⟨ρ1, R, I1.drop, P1⟩⟩
    | false => exact ⟨false, rfl, by rw [if_neg (by decide)]; exact P1 (.bl false) H1 rfl (I1.drop.imp fun S w => w.bl)⟩
  | _ => rw [e] at P1; exact P1.elim
theorem se_or (ha : SE X c a ga) (hb : SE X c (.BoolOp .Or (b :: rest) pos) gb) : SE X c (.BoolOp .Or (a :: b :: rest) pos) (vOr ga gb) := pe_imp (pe_or ha hb) fun σ H Q h => by
  obtain ⟨ρ, R, I, P⟩ := h
  refine se_then I P fun x H1 ρ1 I1 P1 => ?_
  cases e : er x with
  | bl k =>
    rw [e] at P1
    rw [er_bl e]
    cases k with
    | true => exact ⟨true, rfl, by rw [if_pos rfl]; exact P1 (.bl true) H1 rfl (I1.drop.imp fun S w => w.bl)⟩
    | false => exact ⟨false, rfl, by rw [if_neg (by decide)]; exact ⟨ρ1, R, I1.drop, P1⟩⟩
  | _ => rw [e] at P1; exact P1.elim
theorem se_not (ha : SE X c a ga) : SE X c (.UnaryOp .Not a pos) (vNot ga) := pe_imp (pe_not ha) fun σ H Q h => by
  obtain ⟨ρ, R, I, P⟩ := h
  refine se_then I P fun x H1 ρ1 I1 P1 => ?_
  cases e : er x with
  | bl k =>
    rw [e] at P1
    rw [er_bl e]
    exact ⟨k, rfl, P1 (.bl (!k)) H1 rfl (I1.drop.imp fun S w => w.bl)⟩
  | _ => rw [e] at P1; exact P1.elim
def fIf (fc : M Bool) (ga gb : M T) : M T := fc.bind fun k => if k then ga else gb
theorem se_ifExp {cd : Expr} (hc : SC X c cd fa) (ha : SE X c a ga) (hb : SE X c b gb) : SE X c (.IfExp cd a b pos) (fIf fa ga gb) := pe_imp (pe_ifExp hc ha hb) fun σ H Q h => by
  obtain ⟨ρ, R, I, P⟩ := h
  refine sc_then I P fun k H1 ρ1 I1 P1 => ?_
  cases k with
  | true => exact ⟨ρ1, R, I1, P1⟩
  | false => exact ⟨ρ1, R, I1, P1⟩

/-! ### len of a place -/
def gLen : T → Option T
  | .str y => if y.length ≤ sizeLine then some (.int y.length) else none
  | .nd .tup xs => some (.int xs.length)
  | .nd (.lst _) xs => some (.int xs.length)
  | .nd .scr xs => some (.int xs.length)
  | .nd (.dct _ ks) _ => some (.int ks.length)
  | _ => none
def fLenB (fp : M (Nat × List Nat)) : M T := fp.bind fun ip ρ => match ρ[ip.1]? with
  | some (some r) => match r.get ip.2 with
    | some l => match gLen l with
      | some b => .ok b ρ
      | none => .bad
    | none => .bad
  | _ => .bad
def rLenA (K : PySem.W.Frag) : List V → Hp → VK → Prop := fun xs H Q => (∃ x n, xs = [x] ∧ LenV K x H n ∧ Q (.int n) H) ∨ ∃ a kvs, xs = [V.ref a] ∧ H a = some (.dK kvs) ∧ Q (.int kvs.length) H
theorem call_lenA : CallR X (.builtin "len") (rLenA X.K) := call_len.or call_lenD
theorem len_ok {B : Tab} {H : Hp} {x : A} {t : T} (ok : Ok B H x) (h : gLen (er x) = some t) : ∃ n : Int, t = .int n ∧ ∀ Q : VK, Q (.int n) H → rLenA B.K [val x] H Q := by
  unfold gLen at h
  split at h
  · rename_i y e
    split at h
    · rename_i hl
      cases h
      rw [er_str e]
      exact ⟨_, rfl, fun Q q => .inl ⟨_, _, rfl, ⟨hl, rfl⟩, q⟩⟩
    · cases h
  · rename_i xs e
    cases h
    obtain ⟨w1, a1, d1, zs, rfl, rfl⟩ := er_nd e
    exact ⟨_, rfl, fun Q q => .inl ⟨_, _, rfl, .inr ⟨_, sqT ok, rfl⟩, by rw [List.length_map, ← len_erL]; exact q⟩⟩
  · rename_i m xs e
    cases h
    obtain ⟨w1, a1, d1, zs, rfl, rfl⟩ := er_nd e
    exact ⟨_, rfl, fun Q q => .inl ⟨_, _, rfl, .inl ⟨_, sqL ok, rfl⟩, by rw [List.length_map, ← len_erL]; exact q⟩⟩
  · rename_i xs e
    cases h
    obtain ⟨w1, a1, d1, zs, rfl, rfl⟩ := er_nd e
    exact ⟨_, rfl, fun Q q => .inl ⟨_, _, rfl, .inl ⟨_, sqS ok, rfl⟩, by rw [List.length_map, ← len_erL]; exact q⟩⟩
  · rename_i m ks xs e
    cases h
    obtain ⟨w1, a1, d1, zs, rfl, rfl⟩ := er_nd e
    obtain ⟨⟨_, hl, _, hh⟩, _⟩ := ok
    exact ⟨_, rfl, fun Q q => .inr ⟨_, _, rfl, hh, by rw [List.length_zip, ← hl, Nat.min_self]; exact q⟩⟩
  · cases h
theorem se_lenB {fp : M (Nat × List Nat)} {p : Pos} (hm : X.mg "len" = none) (ho : SB X c e fp) (hg : Gl X "len" := by rfl)
    (he : starEach (e :: []) X.env = (false, eval e X.env) :: starEach [] X.env := by rfl) (hpl : (backTo pos (starEach [] X.env)).any (·.1) = false := by rfl) : SE X c (.Call (.Name "len" p) [e] [] pos) (fLenB fp) :=
  pe_imp (pe_callB call_lenA hg hm PySem.boot_len (pa_cons ho pa_nil he) (by decide) (by decide) he hpl) fun σ H Q h => by
    obtain ⟨ρ, R, I, P⟩ := h
    refine sb_then I P fun ip ρA H1 m w P1 => ?_
    split at P1
    · rename_i rt e1
      obtain ⟨root, er1, ert⟩ := erE_some e1
      subst ert
      rw [er_aget] at P1
      cases el : aget root ip.2 with
      | none => rw [el] at P1; exact P1.elim
      | some leaf =>
        rw [el] at P1
        simp only [Option.map_some] at P1
        split at P1
        · rename_i t et
          obtain ⟨n, rfl, k⟩ := len_ok ((w.take er1).at el) et
          exact ⟨root, leaf, er1, el, k Q (P1 (.int n) H1 rfl ⟨ρA, rfl, m, w.int.toMid⟩)⟩
        · exact P1.elim
    · exact P1.elim
def gLenL : List T → Option T
  | [t] => gLen t
  | _ => none
theorem sim_len {B : Tab} : SimL B (rLenA B.K) gLenL := fun H xs R t Q w e hz => by
  unfold gLenL at e
  split at e
  · rename_i u eu
    obtain ⟨r, rfl, rfl⟩ := er_one eu
    obtain ⟨n, rfl, k⟩ := len_ok w.head e
    exact k Q (hz (.int n) H rfl w.drop.int)
  · cases e
theorem se_len {p : Pos} {fl : M (List T)} (hm : X.mg "len" = none) (ha : SL X c [e] fl) (hg : Gl X "len" := by rfl)
    (he : starEach (e :: []) X.env = (false, eval e X.env) :: starEach [] X.env := by rfl) (hpl : (backTo pos (starEach [] X.env)).any (·.1) = false := by rfl) : SE X c (.Call (.Name "len" p) [e] [] pos) (fCallL gLenL fl) :=
  se_callB call_lenA sim_len hg hm PySem.boot_len ha (by decide) (by decide) he hpl
/-! ### list(x), tuple(x), abs, int, min, max -/
def gList : List T → Option T
  | [.nd .tup xs] => some (.nd (.lst true) xs)
  | [.nd (.lst _) xs] => some (.nd (.lst true) xs)
  | _ => none
theorem sim_list {B : Tab} : SimL B (fun xs H Q => ∃ p ys, xs = [.ref p] ∧ (SqL B.K H p ys ∨ SqT B.K H p ys) ∧ ∀ l, H l = none → Q (.ref l) (upd H l (.lst ys))) gList := fun H xs R t Q w e hz => by
  have fin : ∀ {k : NK} {w1 : Bool} {a1 d1 : Addr} {zs : List A}, W B H ([.nd k w1 a1 d1 zs] ++ R) → t = .nd (.lst true) (erL zs) → ∀ l, H l = none → Q (.ref l) (upd H l (.lst (zs.map val))) := fun {k w1 a1 d1 zs} w et l hl => by
    have wa : W B H (zs ++ R) := W.open w
    exact hz _ _ (by rw [er, et]) (W.lst wa hl)
  unfold gList at e
  split at e
  · rename_i ys eu
    cases e
    obtain ⟨r, rfl, er1⟩ := er_one eu
    obtain ⟨w1, a1, d1, zs, rfl, rfl⟩ := er_nd er1
    exact ⟨a1, zs.map val, rfl, .inr (sqT w.head), fin w rfl⟩
  · rename_i m ys eu
    cases e
    obtain ⟨r, rfl, er1⟩ := er_one eu
    obtain ⟨w1, a1, d1, zs, rfl, rfl⟩ := er_nd er1
    exact ⟨a1, zs.map val, rfl, .inl (sqL w.head), fin w rfl⟩
  · cases e
def gTuple : List T → Option T
  | [.nd .tup xs] => some (.nd .tup xs)
  | [.nd (.lst _) xs] => some (.nd .tup (T.fzL xs))
  | _ => none
theorem sim_tuple {B : Tab} : SimL B (fun xs H Q => ∃ p ys, xs = [.ref p] ∧ ((SqL B.K H p ys ∧ ∀ l, H l = none → Q (.ref l) (upd H l (.tup ys))) ∨ (SqT B.K H p ys ∧ Q (.ref p) H))) gTuple := fun H xs R t Q w e hz => by
  unfold gTuple at e
  split at e
  · rename_i ys eu
    cases e
    obtain ⟨r, rfl, er1⟩ := er_one eu
    have er1' := er1
    obtain ⟨w1, a1, d1, zs, rfl, rfl⟩ := er_nd er1
    exact ⟨a1, zs.map val, rfl, .inr ⟨sqT w.head, hz _ H er1' w⟩⟩
  · rename_i m ys eu
    cases e
    obtain ⟨r, rfl, er1⟩ := er_one eu
    obtain ⟨w1, a1, d1, zs, rfl, rfl⟩ := er_nd er1
    refine ⟨a1, zs.map val, rfl, .inl ⟨sqL w.head, fun l hl => ?_⟩⟩
    have wa : W B H (zs ++ R) := W.open w
    have wb := W.fzL wa
    have wc := W.node (k := .tup) (p := l) (dx := 0) (o := .tup (zs.map val)) wb hl (by show upd H l _ l = _; rw [upd_same, mval_fzL]) (fun _ _ _ q => nomatch q) fun _ => fzL_own wa
    exact hz _ _ (by rw [er, erL_fz]) wc
  · cases e
def gAbs : List T → Option T
  | [.int i] => some (.int (if i < 0 then -i else i))
  | _ => none
theorem sim_abs {B : Tab} : SimL B (fun xs H Q => ∃ i, xs = [.int i] ∧ Q (.int (if i < 0 then -i else i)) H) gAbs := fun H xs R t Q w e hz => by
  unfold gAbs at e
  split at e
  · rename_i i eu
    cases e
    obtain ⟨r, rfl, er1⟩ := er_one eu
    rw [er_int er1] at w ⊢
    exact ⟨i, rfl, hz (.int _) H rfl w.drop.int⟩
  · cases e
def gMax2 : List T → Option T
  | [.int i, .int j] => some (.int (if j > i then j else i))
  | _ => none
def gMin2 : List T → Option T
  | [.int i, .int j] => some (.int (if j < i then j else i))
  | _ => none
theorem sim_max2 {B : Tab} : SimL B (fun xs H Q => ∃ i j, xs = [.int i, .int j] ∧ Q (.int (if j > i then j else i)) H) gMax2 := fun H xs R t Q w e hz => by
  unfold gMax2 at e
  split at e
  · rename_i i j eu
    cases e
    obtain ⟨r, s, rfl, er1, er2⟩ := er_two eu
    rw [er_int er1, er_int er2] at w ⊢
    exact ⟨i, j, rfl, hz (.int _) H rfl w.drop.drop.int⟩
  · cases e
theorem sim_min2 {B : Tab} : SimL B (fun xs H Q => ∃ i j, xs = [.int i, .int j] ∧ Q (.int (if j < i then j else i)) H) gMin2 := fun H xs R t Q w e hz => by
  unfold gMin2 at e
  split at e
  · rename_i i j eu
    cases e
    obtain ⟨r, s, rfl, er1, er2⟩ := er_two eu
    rw [er_int er1, er_int er2] at w ⊢
    exact ⟨i, j, rfl, hz (.int _) H rfl w.drop.drop.int⟩
  · cases e
/-- int(x) of an int, a truth value, a text -/
def gInt : List T → Option T
  | [.int i] => some (.int i)
  | [.bl k] => some (.int (if k then 1 else 0))
  | [.str a] => if a.length ≤ 640 then (PySem.intText? a).map T.int else none
  | _ => none
def rIntA : List V → Hp → VK → Prop := fun xs H Q => ((∃ i, xs = [.int i] ∧ Q (.int i) H) ∨ ∃ k, xs = [.bl k] ∧ Q (.int (if k then 1 else 0)) H) ∨ ∃ a n, xs = [.str a] ∧ PySem.intText? a = some n ∧ a.length ≤ 640 ∧ Q (.int n) H
theorem call_intA : CallR X (.type "int") rIntA := call_int1.or call_int_str
theorem sim_int {B : Tab} : SimL B rIntA gInt := fun H xs R t Q w e hz => by
  unfold gInt at e
  split at e
  · rename_i i eu
    cases e
    obtain ⟨r, rfl, er1⟩ := er_one eu
    rw [er_int er1] at w ⊢
    exact .inl (.inl ⟨i, rfl, hz (.int _) H rfl w.drop.int⟩)
  · rename_i i eu
    cases e
    obtain ⟨r, rfl, er1⟩ := er_one eu
    rw [er_bl er1] at w ⊢
    exact .inl (.inr ⟨i, rfl, hz (.int _) H rfl w.drop.int⟩)
  · rename_i a eu
    split at e
    · rename_i hl
      cases en : PySem.intText? a with
      | none => rw [en] at e; cases e
      | some n =>
        rw [en] at e
        cases e
        obtain ⟨r, rfl, er1⟩ := er_one eu
        rw [er_str er1] at w ⊢
        exact .inr ⟨a, n, rfl, en, hl, hz (.int n) H rfl w.drop.int⟩
    · cases e
  · cases e
/-- str(n), repr(n) of an int -/
def gStr : List T → Option T
  | [.int i] => if i.natAbs.log2 < 1920 then some (.str (toString i)) else none
  | _ => none
theorem sim_str {B : Tab} : SimL B (fun xs H Q => ∃ i, xs = [.int i] ∧ i.natAbs.log2 < 1920 ∧ Q (.str (toString i)) H) gStr := fun H xs R t Q w e hz => by
  unfold gStr at e
  split at e
  · rename_i i eu
    split at e
    · rename_i hl
      cases e
      obtain ⟨r, rfl, er1⟩ := er_one eu
      rw [er_int er1] at w ⊢
      exact ⟨i, rfl, hl, hz (.str _) H rfl w.drop.str⟩
    · cases e
  · cases e
/-! ### lists of ints, of truth values: sorted, sum, all, any, max -/
def intsOf : List T → Option (List Int)
  | [] => some []
  | .int i :: xs => (intsOf xs).map (i :: ·)
  | _ :: _ => none
def blsOf : List T → Option (List Bool)
  | [] => some []
  | .bl i :: xs => (blsOf xs).map (i :: ·)
  | _ :: _ => none
theorem intsOf_eq : ∀ {xs : List A} {ns : List Int}, intsOf (erL xs) = some ns → xs = ns.map A.int
  | [], ns, h => by rw [erL, intsOf] at h; cases h; rfl
  | x :: xs, ns, h => by
    rw [erL] at h
    cases hx : er x with
    | int i =>
      rw [hx, intsOf] at h
      cases e : intsOf (erL xs) with
      | none => rw [e] at h; cases h
      | some ms =>
        rw [e] at h
        cases h
        rw [List.map_cons, ← intsOf_eq e, er_int hx]
    | _ => rw [hx] at h; cases h
theorem blsOf_eq : ∀ {xs : List A} {ns : List Bool}, blsOf (erL xs) = some ns → xs = ns.map A.bl
  | [], ns, h => by rw [erL, blsOf] at h; cases h; rfl
  | x :: xs, ns, h => by
    rw [erL] at h
    cases hx : er x with
    | bl i =>
      rw [hx, blsOf] at h
      cases e : blsOf (erL xs) with
      | none => rw [e] at h; cases h
      | some ms =>
        rw [e] at h
        cases h
        rw [List.map_cons, ← blsOf_eq e, er_bl hx]
    | _ => rw [hx] at h; cases h
theorem vals_int (ns : List Int) : (ns.map A.int).map val = ns.map V.int := by rw [List.map_map]; rfl
theorem vals_bl (ns : List Bool) : (ns.map A.bl).map val = ns.map V.bl := by rw [List.map_map]; rfl
theorem erL_int (ns : List Int) : erL (ns.map A.int) = ns.map T.int := by rw [erL_map, List.map_map]; rfl
theorem W.ints {B : Tab} {H : Hp} {R : List A} (h : W B H R) : ∀ ns : List Int, W B H (ns.map A.int ++ R)
  | [] => h
  | n :: ns => (W.ints h ns).int
/-- the sorted list -/
def insI (n : Int) : List Int → List Int
  | [] => [n]
  | m :: l => if n ≤ m then n :: m :: l else m :: insI n l
def sortI : List Int → List Int
  | [] => []
  | n :: l => insI n (sortI l)
theorem insI_perm (n : Int) : ∀ l, (insI n l).Perm (n :: l)
  | [] => .refl _
  | m :: l => by
    rw [insI]
    split
    · exact .refl _
    · exact ((insI_perm n l).cons m).trans (.swap _ _ _)
theorem sortI_perm : ∀ l, (sortI l).Perm l
  | [] => .refl _
  | n :: l => (insI_perm n _).trans ((sortI_perm l).cons n)
theorem insI_sorted (n : Int) : ∀ l : List Int, l.Pairwise (· ≤ ·) → (insI n l).Pairwise (· ≤ ·)
  | [], _ => by simp [insI]
  | m :: l, h => by
    rw [insI]
    obtain ⟨h1, h2⟩ := List.pairwise_cons.mp h
    split
    · rename_i hn
      refine List.pairwise_cons.mpr ⟨fun x hx => ?_, h⟩
      rcases List.mem_cons.mp hx with rfl | hx
      · exact hn
      · exact Int.le_trans hn (h1 x hx)
    · rename_i hn
      refine List.pairwise_cons.mpr ⟨fun x hx => ?_, insI_sorted n l h2⟩
      rcases List.mem_cons.mp ((insI_perm n l).mem_iff.mp hx) with rfl | hx
      · omega
      · exact h1 x hx
theorem sortI_sorted : ∀ l, (sortI l).Pairwise (· ≤ ·)
  | [] => .nil
  | n :: l => insI_sorted n _ (sortI_sorted l)
theorem sorted_one : ∀ {l l' : List Int}, l.Perm l' → l.Pairwise (· ≤ ·) → l'.Pairwise (· ≤ ·) → l = l'
  | [], l', p, _, _ => (List.Perm.nil_eq p)
  | x :: l, [], p, _, _ => absurd p.symm.nil_eq (by simp)
  | x :: l, y :: l', p, h, h' => by
    obtain ⟨h1, h2⟩ := List.pairwise_cons.mp h
    obtain ⟨h3, h4⟩ := List.pairwise_cons.mp h'
    have exy : x = y := by
      have a1 : y ∈ x :: l := p.mem_iff.mpr List.mem_cons_self
      have a2 : x ∈ y :: l' := p.mem_iff.mp List.mem_cons_self
      rcases List.mem_cons.mp a1 with a1 | a1
      · exact a1.symm
      · rcases List.mem_cons.mp a2 with a2 | a2
        · exact a2
        · have := h1 y a1
          have := h3 x a2
          omega
    subst exy
    rw [sorted_one (List.Perm.cons_inv p) h2 h4]
def gSorted : List T → Option T
  | [.nd (.lst _) xs] => (intsOf xs).map fun ns => .nd (.lst true) ((sortI ns).map T.int)
  | _ => none
theorem sim_sorted {B : Tab} : SimL B (rSortedI B.K) gSorted := fun H xs R t Q w e hz => by
  unfold gSorted at e
  split at e
  · rename_i m ys eu
    obtain ⟨r, rfl, er1⟩ := er_one eu
    obtain ⟨w1, a1, d1, zs, rfl, rfl⟩ := er_nd er1
    cases en : intsOf (erL zs) with
    | none => rw [en] at e; cases e
    | some ns =>
      rw [en] at e
      cases e
      have := intsOf_eq en
      subst this
      have ok := w.head
      refine ⟨a1, ns, rfl, by rw [← vals_int]; exact sqL ok, fun ns' p pm so hp => ?_⟩
      have : ns' = sortI ns := sorted_one (pm.trans (sortI_perm ns).symm) so (sortI_sorted ns)
      subst this
      have wa : W B H ((sortI ns).map A.int ++ R) := W.ints w.drop _
      have wc := W.node (k := .lst true) (p := p) (dx := 0) (o := .lst ((sortI ns).map V.int)) wa hp ⟨rfl, by rw [upd_same, vals_int]⟩ (fun _ _ _ q => nomatch q) fun q => nomatch q
      exact hz _ _ (by rw [er, erL_int]) wc
  · cases e
def gAll : List T → Option T
  | [.nd (.lst _) xs] => (blsOf xs).map fun ns => .bl (ns.all id)
  | _ => none
def gAny : List T → Option T
  | [.nd (.lst _) xs] => (blsOf xs).map fun ns => .bl (ns.any id)
  | _ => none
theorem sim_all {B : Tab} : SimL B (rAll B.K) gAll := fun H xs R t Q w e hz => by
  unfold gAll at e
  split at e
  · rename_i m ys eu
    obtain ⟨r, rfl, er1⟩ := er_one eu
    obtain ⟨w1, a1, d1, zs, rfl, rfl⟩ := er_nd er1
    cases en : blsOf (erL zs) with
    | none => rw [en] at e; cases e
    | some ns =>
      rw [en] at e
      cases e
      have := blsOf_eq en
      subst this
      exact ⟨a1, ns, rfl, by rw [← vals_bl]; exact sqL w.head, hz (.bl _) H rfl w.drop.bl⟩
  · cases e
theorem sim_any {B : Tab} : SimL B (rAny B.K) gAny := fun H xs R t Q w e hz => by
  unfold gAny at e
  split at e
  · rename_i m ys eu
    obtain ⟨r, rfl, er1⟩ := er_one eu
    obtain ⟨w1, a1, d1, zs, rfl, rfl⟩ := er_nd er1
    cases en : blsOf (erL zs) with
    | none => rw [en] at e; cases e
    | some ns =>
      rw [en] at e
      cases e
      have := blsOf_eq en
      subst this
      exact ⟨a1, ns, rfl, by rw [← vals_bl]; exact sqL w.head, hz (.bl _) H rfl w.drop.bl⟩
  · cases e
def gSum : List T → Option T
  | [.nd (.lst _) xs] => (intsOf xs).map fun ns => .int ns.sum
  | _ => none
theorem sim_sum {B : Tab} : SimL B (rSum B.K) gSum := fun H xs R t Q w e hz => by
  unfold gSum at e
  split at e
  · rename_i m ys eu
    obtain ⟨r, rfl, er1⟩ := er_one eu
    obtain ⟨w1, a1, d1, zs, rfl, rfl⟩ := er_nd er1
    cases en : intsOf (erL zs) with
    | none => rw [en] at e; cases e
    | some ns =>
      rw [en] at e
      cases e
      have := intsOf_eq en
      subst this
      exact ⟨a1, ns, rfl, by rw [← vals_int]; exact sqL w.head, hz (.int _) H rfl w.drop.int⟩
  · cases e
def maxI : List Int → Option Int
  | [] => none
  | n :: l => match maxI l with
    | none => some n
    | some m => some (if m > n then m else n)
theorem maxI_spec : ∀ {l : List Int} {m : Int}, maxI l = some m → m ∈ l ∧ ∀ y ∈ l, y ≤ m
  | [], _, h => by cases h
  | n :: l, m, h => by
    rw [maxI] at h
    cases e : maxI l with
    | none =>
      rw [e] at h
      cases h
      cases l with
      | nil => simp
      | cons x l => rw [maxI] at e; cases e2 : maxI l <;> (rw [e2] at e; cases e)
    | some k =>
      rw [e] at h
      obtain ⟨h1, h2⟩ := maxI_spec e
      have h3 := Option.some.inj h
      by_cases hk : k > n
      · rw [if_pos hk] at h3
        subst h3
        refine ⟨List.mem_cons_of_mem _ h1, fun y hy => ?_⟩
        rcases List.mem_cons.mp hy with rfl | hy
        · omega
        · exact h2 y hy
      · rw [if_neg hk] at h3
        subst h3
        refine ⟨List.mem_cons_self, fun y hy => ?_⟩
        rcases List.mem_cons.mp hy with rfl | hy
        · omega
        · have := h2 y hy; omega
def gMaxL : List T → Option T
  | [.nd (.lst _) xs] => (intsOf xs).bind fun ns => (maxI ns).map T.int
  | _ => none
theorem sim_maxL {B : Tab} : SimL B (rMax B.K) gMaxL := fun H xs R t Q w e hz => by
  unfold gMaxL at e
  split at e
  · rename_i m ys eu
    obtain ⟨r, rfl, er1⟩ := er_one eu
    obtain ⟨w1, a1, d1, zs, rfl, rfl⟩ := er_nd er1
    cases en : intsOf (erL zs) with
    | none => rw [en] at e; cases e
    | some ns =>
      rw [en] at e
      simp only [Option.bind_some] at e
      cases em : maxI ns with
      | none => rw [em] at e; cases e
      | some mx =>
        rw [em] at e
        cases e
        have := intsOf_eq en
        subst this
        obtain ⟨h1, h2⟩ := maxI_spec em
        refine ⟨a1, ns, rfl, by rw [← vals_int]; exact sqL w.head, List.length_pos_of_mem h1, fun m hm hb => ?_⟩
        have : m = mx := Int.le_antisymm (h2 m hm) (hb mx h1)
        subst this
        exact hz (.int _) H rfl w.drop.int
  · cases e

/-! ### slices -/
def cutT (xs : List T) (lo hi : Option Int) : List T := (xs.drop (HT.sIx xs.length 0 lo)).take (HT.sIx xs.length xs.length hi - HT.sIx xs.length 0 lo)
def gSl (t : T) (lo hi : Option Int) : Option T := match t with
  | .nd (.lst _) xs => some (.nd (.lst true) (cutT xs lo hi))
  | .nd .scr xs => some (.nd (.lst true) (cutT xs lo hi))
  | .nd .tup xs => some (.nd .tup (cutT xs lo hi))
  | .str z => if z.length ≤ sizeLine then some (.str (cutS z lo hi)) else none
  | _ => none
def rSlAll (K : PySem.W.Frag) : V → Option Int → Option Int → Hp → VK → Prop := fun x lo hi H Q => rSlL K x lo hi H Q ∨ rSlA K x lo hi H Q ∨ rSlS x lo hi H Q
theorem sl_all : SlR X (rSlAll X.K) := sl_list.or (sl_tupA.or sl_str)
/-- a part of a slice: no part, or an expression -/
def SP' (X : Cx) (c : Cu) (e : Option Expr) (f : M (Option Int)) : Prop := PO X e (fun σ H Q => ∃ ρ R, SI X c σ H ρ R ∧ Post X c σ R (fun o ρ' => ∀ H', SI X c σ H' ρ' R → Q o H') (f ρ))
theorem sp_none : SP' X c none (M.ret none) := ⟨fun pins s σ H Q I h => by
  obtain ⟨ρ, R, I', P⟩ := h
  exact po_none.run pins s σ H Q I (P H I')⟩
def pInt (ga : M T) : M (Option Int) := ga.bind fun t => match t with
  | .int i => M.ret (some i)
  | _ => fun _ => .bad
theorem sp_some (ha : SE X c e ga) : SP' X c (some e) (pInt ga) := ⟨fun pins s σ H Q I h => by
  obtain ⟨ρ, R, I', P⟩ := h
  refine (po_some ha).run pins s σ H Q I ?_
  refine se_then (K := fun o ρ' => ∀ H', SI X c σ H' ρ' R → Q o H') I' P fun x H1 ρ1 I1 P1 => ?_
  cases e : er x with
  | int i =>
    rw [e] at P1
    rw [er_int e]
    exact ⟨i, rfl, P1 H1 I1.drop⟩
  | _ => rw [e] at P1; exact P1.elim⟩
def fSl (ga : M T) (fl fh : M (Option Int)) : M T := ga.bind fun t => fl.bind fun l => fh.bind fun h => lift (gSl t l h)
theorem map_cut {xs : List A} {lo hi : Option Int} : cutV (xs.map val) lo hi = ((xs.drop (HT.sIx xs.length 0 lo)).take (HT.sIx xs.length xs.length hi - HT.sIx xs.length 0 lo)).map val := by
  unfold cutV
  rw [List.length_map, ← List.map_drop, ← List.map_take]
theorem er_cut {xs : List A} {lo hi : Option Int} : cutT (erL xs) lo hi = erL ((xs.drop (HT.sIx xs.length 0 lo)).take (HT.sIx xs.length xs.length hi - HT.sIx xs.length 0 lo)) := by
  unfold cutT
  rw [len_erL, erL_map, erL_map, ← List.map_drop, ← List.map_take]
theorem W.cut {B : Tab} {H : Hp} {R xs : List A} (h : W B H (xs ++ R)) (i j : Nat) : W B H ((xs.drop i).take j ++ R) := by
  have h1 : W B H (xs.take i ++ (xs.drop i ++ R)) := by rw [← List.append_assoc, List.take_append_drop]; exact h
  have h2 : W B H (((xs.drop i).take j) ++ (((xs.drop i).drop j) ++ R)) := by rw [← List.append_assoc, List.take_append_drop]; exact h1.right
  have h3 : W B H (((xs.drop i).drop j) ++ (((xs.drop i).take j) ++ R)) := h2.perm (perm_of fun f g h1 h2 h3 => by simp only [h1, h2]; omega)
  exact h3.right
theorem own_cut {xs : List A} (h : ownL xs = []) (i j : Nat) : ownL ((xs.drop i).take j) = [] := by
  refine List.eq_nil_iff_forall_not_mem.mpr fun b hb => ?_
  obtain ⟨x, hx, hb⟩ := mem_ownL.mp hb
  have : b ∈ ownL xs := mem_ownL.mpr ⟨x, List.mem_of_mem_drop (List.mem_of_mem_take hx), hb⟩
  rw [h] at this
  simp at this
theorem sim_sl {B : Tab} {H : Hp} {x : A} {R : List A} {lo hi : Option Int} {t : T} {Q : VK} (w : W B H (x :: R)) (e : gSl (er x) lo hi = some t) (hz : ∀ z H', er z = t → W B H' (z :: R) → Q (val z) H') : rSlAll B.K (val x) lo hi H Q := by
  unfold gSl at e
  split at e
  · rename_i m xs h1
    cases e
    obtain ⟨w1, a1, d1, zs, rfl, rfl⟩ := er_nd h1
    refine .inl ⟨a1, zs.map val, rfl, sqL w.head, fun p hp => ?_⟩
    rw [map_cut]
    exact hz _ _ (by rw [er, er_cut]) (W.lst (W.cut (W.open w) _ _) hp)
  · rename_i xs h1
    cases e
    obtain ⟨w1, a1, d1, zs, rfl, rfl⟩ := er_nd h1
    refine .inl ⟨a1, zs.map val, rfl, sqS w.head, fun p hp => ?_⟩
    rw [map_cut]
    exact hz _ _ (by rw [er, er_cut]) (W.lst (W.cut (W.open w) _ _) hp)
  · rename_i xs h1
    cases e
    obtain ⟨w1, a1, d1, zs, rfl, rfl⟩ := er_nd h1
    refine .inr (.inl ⟨a1, zs.map val, rfl, sqT w.head, fun ee => ?_, fun _ p hp => ?_⟩)
    · rw [List.length_map] at ee
      refine hz _ H ?_ w
      rw [er, er_cut, ee.1, ee.2]
      simp
    · rw [map_cut]
      exact hz _ _ (by rw [er, er_cut]) (W.tup (W.cut (W.open w) _ _) hp (own_cut (own_tup w.head) _ _))
  · rename_i z h1
    split at e
    · rename_i hl
      cases e
      rw [er_str h1] at w ⊢
      exact .inr (.inr ⟨z, rfl, hl, hz (.str _) H rfl w.drop.str⟩)
    · cases e
  · cases e
theorem se_slice {lo hi : Option Expr} {fl fh : M (Option Int)} {p2 : Pos} (ha : SE X c e ga) (hl : SP' X c lo fl) (hh : SP' X c hi fh) : SE X c (.Subscript e (.Slice lo hi none p2) pos) (fSl ga fl fh) := pe_imp (pe_slice sl_all ha hl hh) fun σ H Q h => by
  obtain ⟨ρ, R, I, P⟩ := h
  refine se_then I P fun x H1 ρ1 I1 P1 => ?_
  refine ⟨ρ1, x :: R, I1, (Post.bind.mp P1.more).mono (fun _ _ i => i) fun l ρ2 P2 H2 I2 => ?_⟩
  refine ⟨ρ2, x :: R, I2, (Post.bind.mp P2).mono (fun _ _ i => i) fun h ρ3 P3 H3 I3 => ?_⟩
  have P4 : Post X c σ (x :: R) (KE X c σ R Q) (lift (gSl (er x) l h) ρ3) := P3
  obtain ⟨t, et, q⟩ := P4.lift
  exact SI.end_ (R' := [x]) I3 q _ fun S w hz => sim_sl w et hz
/-! ### {} and {k: v, ..} -/
theorem se_dnew : SE X c (.Dict [] [] pos) (M.ret (.nd (.dct true []) [])) := pe_imp pe_dnewK fun σ H Q h => by
  obtain ⟨ρ, R, I, P⟩ := h
  intro p hp
  refine P (.nd (.dct true []) false p 0 []) _ rfl (I.imp fun S w => ?_)
  exact W.node (xs := []) w hp ⟨rfl, rfl, List.nodup_nil, upd_same⟩ (fun _ _ _ q => nomatch q) fun q => nomatch q
/-- the pairs of a display -/
def fPNil : M (List (Key × T)) := M.ret []
def fPCons (fk fv : M T) (fr : M (List (Key × T))) : M (List (Key × T)) := fk.bind fun k => fv.bind fun v => match keyT k with
  | some k' => fr.bind fun r => M.ret ((k', v) :: r)
  | none => fun _ => .bad
def mergeT (kvs : List (Key × T)) : List Key × List T := kvs.foldl (fun acc kv => kput kv.1 kv.2 acc.1 acc.2) ([], [])
def fDisp (fr : M (List (Key × T))) : M T := fr.bind fun kvs => if kvs.length ≤ 15 then M.ret (.nd (.dct true (mergeT kvs).1) (mergeT kvs).2) else fun _ => .bad
/-- pairs, walked -/
structure SPs (X : Cx) (c : Cu) (pos : Pos) (keys : List (Option Expr)) (values : List Expr) (trs : List (TE × TE)) (f : M (List (Key × T))) : Prop where
  pps : PPs X pos keys values trs
  to : ∀ (σ : L2.St) (H : Hp) (R : List A) (ρ : Env) (K : List (Key × T) → Env → Prop) (Q : List (V × V) → Hp → Prop), SI X c σ H ρ R → Post X c σ R K (f ρ) →
    (∀ (ks : List Key) (vs : List A) H' ρ', ks.length = vs.length → SI X c σ H' ρ' (vs ++ R) → K (ks.zip (erL vs)) ρ' → Q ((ks.zip (vs.map val)).map fun kv => (kV kv.1, kv.2)) H') → tPairs trs σ H Q
theorem sps_nil : SPs X c pos [] [] [] fPNil := ⟨pps_nil, fun σ H R ρ K Q I P h => h [] [] H ρ rfl I P⟩
theorem sps_cons {k v : Expr} {ks : List (Option Expr)} {vs : List Expr} {trs : List (TE × TE)} {fk fv : M T} {fr : M (List (Key × T))} (hk : SE X c k fk) (hv : SE X c v fv) (hr : SPs X c pos ks vs trs fr) :
    SPs X c pos (some k :: ks) (v :: vs) ((SEr X c fk, SEr X c fv) :: trs) (fPCons fk fv fr) := ⟨pps_cons hk hv hr.pps, fun σ H R ρ K Q I P h => by
  refine se_then I P fun x H1 ρ1 I1 P1 => ?_
  refine se_then (R := x :: R) I1 P1.more fun y H2 ρ2 I2 P2 => ?_
  cases ek : keyT (er x) with
  | none => rw [ek] at P2; exact P2.elim
  | some k' =>
    rw [ek] at P2
    refine hr.to σ H2 (y :: x :: R) ρ2 _ _ I2 (Post.bind.mp P2.more) fun ks' vs' H3 ρ3 hl I3 q => ?_
    have := h (k' :: ks') (y :: vs') H3 ρ3 (by simp [hl]) (I3.imp fun S w => by
      have w1 : W (tab X c) H3 (x :: (y :: vs' ++ R ++ S)) := w.perm (perm_of fun f g h1 h2 h3 => by simp only [List.cons_append, h1, h2]; omega)
      exact w1.drop) (by rw [erL, List.zip_cons_cons]; exact q)
    rw [List.map_cons, List.zip_cons_cons, List.map_cons] at this
    rw [kV_of ek rfl]
    exact this⟩
theorem merge_ok : ∀ (ks : List Key) (vs : List A) (k0 : List Key) (v0 : List A), k0.length = v0.length → k0.Nodup → ∃ k1 v1, (ks.zip (erL vs)).foldl (fun acc kv => kput kv.1 kv.2 acc.1 acc.2) (k0, erL v0) = (k1, erL v1) ∧ k1.length = v1.length ∧ k1.Nodup ∧
    mergeK (k0.zip (v0.map val)) (ks.zip (vs.map val)) = k1.zip (v1.map val) ∧ ∃ l, (v0 ++ vs).Perm (l ++ v1)
  | [], vs, k0, v0, hl, hn => ⟨k0, v0, by simp, hl, hn, by simp [mergeK], vs, List.perm_append_comm⟩
  | k :: ks, [], k0, v0, hl, hn => ⟨k0, v0, by simp [erL], hl, hn, by simp [mergeK], [], by simp⟩
  | k :: ks, v :: vs, k0, v0, hl, hn => by
    have e1 : (kput k (er v) k0 (erL v0)) = ((kput k v k0 v0).1, erL (kput k v k0 v0).2) := by rw [erL_map, kput_map, erL_map]
    obtain ⟨k1, v1, i1, i2, i3, i4, l, i5⟩ := merge_ok ks vs (kput k v k0 v0).1 (kput k v k0 v0).2 (kput_len hl) (kput_nodup hn)
    refine ⟨k1, v1, ?_, i2, i3, ?_, ?_⟩
    · rw [erL, List.zip_cons_cons, List.foldl_cons]
      dsimp only
      rw [e1]
      exact i1
    · unfold mergeK at i4 ⊢
      rw [List.map_cons, List.zip_cons_cons, List.foldl_cons]
      dsimp only
      rw [putK_zip (by rw [List.length_map]; exact hl) hn, kput_map]
      exact i4
    · have key : ∃ l, (v0 ++ [v]).Perm (l ++ (kput k v k0 v0).2) := by
        unfold kput
        cases kpos k k0 with
        | none => exact ⟨[], by simp⟩
        | some j =>
          cases e : v0[j]? with
          | none =>
            refine ⟨[v], ?_⟩
            simp only []
            rw [List.set_eq_of_length_le (List.getElem?_eq_none_iff.mp e)]
            exact List.perm_append_comm
          | some y =>
            obtain ⟨l, p1, p2⟩ := set_perm v e
            refine ⟨[y], ?_⟩
            refine (p1.append_right [v]).trans (List.Perm.trans ?_ (List.Perm.cons y p2.symm))
            exact perm_of fun f g h1 h2 h3 => by simp only [List.cons_append, h1, h2, h3]; omega
      obtain ⟨l2, p2⟩ := key
      refine ⟨l2 ++ l, ?_⟩
      have p3 : (v0 ++ v :: vs).Perm ((v0 ++ [v]) ++ vs) := by rw [List.append_assoc]; exact .refl _
      refine p3.trans ((p2.append_right vs).trans ?_)
      rw [List.append_assoc, List.append_assoc]
      exact i5.append_left l2
theorem se_disp {keys : List (Option Expr)} {values : List Expr} {trs : List (TE × TE)} {fr : M (List (Key × T))} (h : SPs X c pos keys values trs fr) (hall : keys.all (·.isSome) = true := by rfl) (hl : keys.length = values.length := by rfl) (h0 : keys ≠ [] := by (intro z; cases z))
    (h15 : keys.length ≤ 15 := by decide) : SE X c (.Dict keys values pos) (fDisp fr) := pe_imp (pe_disp h.pps hall hl h0 h15) fun σ H Q hh => by
  obtain ⟨ρ, R, I, P⟩ := hh
  intro p hp
  have I1 : SI X c σ (upd H p (.dK [])) ρ (.nd (.dct true []) false p 0 [] :: R) := I.imp fun S w => W.node (xs := []) w hp ⟨rfl, rfl, List.nodup_nil, upd_same⟩ (fun _ _ _ q => nomatch q) fun q => nomatch q
  refine h.to σ _ (.nd (.dct true []) false p 0 [] :: R) ρ _ _ I1 (Post.bind.mp P.more) fun ks vs H2 ρ2 hkv I2 q => ?_
  have hzl : (ks.zip (erL vs)).length = ks.length := by rw [List.length_zip, len_erL, hkv, Nat.min_self]
  split at q
  · rename_i h15'
    rw [hzl] at h15'
    obtain ⟨ρA, eA, m, w⟩ := I2
    have w1 : W (tab X c) H2 (.nd (.dct true []) false p 0 [] :: (vs ++ (slots ρA ++ R))) := w.perm (perm_of fun f g h1 h2 h3 => by simp only [h1, h2]; omega)
    have hp2 : H2 p = some (.dK []) := w1.head.1.2.2.2
    obtain ⟨k1, v1, i1, i2, i3, i4, l, i5⟩ := merge_ok ks vs [] [] rfl List.nodup_nil
    refine ⟨hp2, ks.zip (vs.map val), rfl, by rw [List.length_zip, List.length_map, hkv, Nat.min_self, ← hkv]; exact h15', ?_⟩
    have i4' : mergeK [] (ks.zip (vs.map val)) = k1.zip (v1.map val) := i4
    rw [i4']
    have w2 : W (tab X c) (upd H2 p (.dK (k1.zip (v1.map val)))) (.nd (.dct true k1) false p 0 v1 :: ([] ++ (slots ρA ++ R))) := chg_of (rs := vs) (res := []) (k := .dct true []) (xs := []) w1 rfl rfl (by
      refine ⟨l, ?_⟩
      have := i5.append_right (slots ρA ++ R)
      rw [List.append_assoc] at this
      simpa using this) ⟨rfl, by rw [List.length_map]; exact i2, i3, upd_same⟩
    have em : mergeT (ks.zip (erL vs)) = (k1, erL v1) := i1
    have := q (.nd (.dct true k1) false p 0 v1) (upd H2 p (.dK (k1.zip (v1.map val)))) (by rw [er, em]) ⟨ρA, eA, m, W.toMid (xs := slots ρA) w2⟩
    exact this
  · exact q.elim
end
end Tr
end

section
set_option Elab.async false
set_option linter.all false
set_option autoImplicit false
set_option maxRecDepth 100000
/-! Comprehensions, several targets, subscripts and fields of values. -/
namespace Tr
open PySem PySem.Spec PyProof.Rows L2

/-! ### names forgotten -/
def wipeE : Env → List Nat → Env
  | ρ, [] => ρ
  | ρ, v :: vs => (wipeE ρ vs).set v none
def wipeA : AEnv → List Nat → AEnv
  | ρ, [] => ρ
  | ρ, v :: vs => (wipeA ρ vs).set v none
theorem er_wipe (ρ : AEnv) : ∀ vs, erE (wipeA ρ vs) = wipeE (erE ρ) vs
  | [] => rfl
  | v :: vs => by rw [wipeA, wipeE, erE_set, er_wipe ρ vs]; rfl
theorem Mat.wipe {ρ : AEnv} {σ : L2.St} (m : Mat ρ σ) : ∀ vs, Mat (wipeA ρ vs) (L2.wipe σ vs)
  | [] => m
  | v :: vs => by
    have h := Mat.wipe m vs
    refine ⟨by rw [wipeA, L2.wipe, List.length_set, List.length_set]; exact h.len, fun i r e => ?_⟩
    rw [wipeA] at e
    rw [L2.wipe]
    by_cases hj : v = i
    · subst hj
      by_cases hlt : v < (wipeA ρ vs).length
      · rw [List.getElem?_set_self hlt] at e; cases e
      · rw [List.getElem?_eq_none (by rw [List.length_set]; omega)] at e; cases e
    · rw [List.getElem?_set_ne hj] at e
      rw [List.getElem?_set_ne hj]
      exact h.at_ i r e
theorem Mat.unwipe {ρ : AEnv} {σ : L2.St} {vs : List Nat} (m : Mat ρ (L2.wipe σ vs)) : Mat ρ σ :=
  ⟨m.len.trans (wipe_length σ vs), fun i r e => (wipe_some (m.at_ i r e)).1⟩
theorem W.wipe {B : Tab} {H : Hp} {ρ : AEnv} {R : List A} (w : W B H (slots ρ ++ R)) : ∀ vs, W B H (slots (wipeA ρ vs) ++ R)
  | [] => w
  | v :: vs => by rw [wipeA]; exact (W.wipe w vs).unset
theorem SI.wipe {X : Cx} {c : Cu} {σ : L2.St} {H : Hp} {ρ : Env} {R : List A} (I : SI X c σ H ρ R) (vs : List Nat) : SI X c (L2.wipe σ vs) H (wipeE ρ vs) R := by
  obtain ⟨ρA, e, m, w⟩ := I
  exact ⟨wipeA ρA vs, by rw [er_wipe, e], m.wipe vs, w.wipe vs⟩
theorem SI.unwipe {X : Cx} {c : Cu} {σ : L2.St} {H : Hp} {ρ : Env} {R : List A} {vs : List Nat} (I : SI X c (L2.wipe σ vs) H ρ R) : SI X c σ H ρ R := by
  obtain ⟨ρA, e, m, w⟩ := I
  exact ⟨ρA, e, m.unwipe, w⟩
/-- within a comprehension: only its own names change, nothing is raised -/
abbrev cC' (c : Cu) (vs : List Nat) : Cu := ⟨c.ct, c.ef, fun _ _ _ _ => False, fun i => !vs.contains i⟩
theorem wipe_get {σ : L2.St} {i : Nat} : ∀ {vs : List Nat}, i ∉ vs → (L2.wipe σ vs)[i]? = σ[i]?
  | [], _ => rfl
  | v :: vs, h => by
    rw [L2.wipe, List.getElem?_set_ne (fun e => h (by rw [e]; exact List.mem_cons_self))]
    exact wipe_get fun q => h (List.mem_cons_of_mem _ q)
theorem wipe_at {σ : L2.St} {i : Nat} : ∀ {vs : List Nat}, i ∈ vs → (L2.wipe σ vs)[i]? = if i < σ.length then some none else none
  | [], h => by simp at h
  | v :: vs, h => by
    rw [L2.wipe]
    by_cases e : v = i
    · subst e
      by_cases hlt : v < σ.length
      · rw [if_pos hlt, List.getElem?_set_self (by rw [wipe_length]; exact hlt)]
      · rw [if_neg hlt, List.getElem?_eq_none (by rw [List.length_set, wipe_length]; omega)]
    · rw [List.getElem?_set_ne e]
      exact wipe_at ((List.mem_cons.mp h).resolve_left fun q => e q.symm)
theorem wipe_of_keep {c : Cu} {vs : List Nat} {σ σ' : L2.St} (k : Keep (cC' c vs) (L2.wipe σ vs) σ') : L2.wipe σ' vs = L2.wipe σ vs := by
  have hl : σ'.length = σ.length := k.len.trans (wipe_length σ vs)
  refine List.ext_getElem? fun i => ?_
  by_cases hi : i ∈ vs
  · rw [wipe_at hi, wipe_at hi, hl]
  · rw [wipe_get hi]
    exact k.at_ i (by simp [hi])
/-- nothing is raised -/
def noX {α : Type} (f : M α) : M α := fun ρ => match f ρ with
  | .exc _ _ => .bad
  | o => o
theorem noX_post {α : Type} {X : Cx} {c c' : Cu} {σ σ' : L2.St} {R R' : List A} {K : α → Env → Prop} {f : M α} {ρ : Env} (h : Post X c σ R K (noX f ρ)) : Post X c' σ' R' K (f ρ) := by
  unfold noX at h
  cases hf : f ρ with
  | ok a ρ' => rw [hf] at h; exact h
  | exc e ρ' => rw [hf] at h; exact h.elim
  | bad => rw [hf] at h; exact h.elim

/-! ### [e for x in .. if ..] -/
def andWipe {α : Type} (vs : List Nat) (f : M α) : M α := fun ρ => f (wipeE ρ vs)
def lcGo (g : FG) (tt : M Bool) (fe : M T) (vs : List Nat) : List T → List T → M (List T)
  | [], acc => M.ret acc
  | t :: ts, acc => fun ρ => match g t ρ with
    | .ok _ ρ1 => ((noX tt).bind fun b => if b then (noX fe).bind fun y => if acc.length < sizeLine then andWipe vs (lcGo g tt fe vs ts (acc ++ [y])) else fun _ => .bad else andWipe vs (lcGo g tt fe vs ts acc)) ρ1
    | _ => .bad
def fLc (fi : M (List T)) (vs : List Nat) (g : FG) (tt : M Bool) (fe : M T) : M T := fi.bind fun items => andWipe vs ((lcGo g tt fe vs items []).bind fun acc => M.ret (.nd (.lst true) acc))
section
variable {X : Cx} {c : Cu} {elt tg iter : Expr} {ifs : List Expr} {scope : Scope} {own' : List (Str × Nat)} {pos : Pos} {fi : M (List T)} {g : FG} {tt : M Bool} {fe : M T}
abbrev ow (l : List (Str × Nat)) : List Nat := l.map (·.2)
/-- the tests of a comprehension -/
def STs (X : Cx) (c : Cu) (ifs : List Expr) (f : M Bool) : Prop := PTs X ifs (STr X c f)
theorem sts_nil : STs X c [] (M.ret true) := ⟨fun pins s σ H Q I h => pts_nil.run pins s σ H Q I (by
  obtain ⟨ρ, R, I', P⟩ := h
  exact P H I')⟩
theorem sts_one {e : Expr} {f : M Bool} (h : SC X c e f) : STs X c [e] f := pts_one h
/-- the blocks of a comprehension: the context of its parts -/
abbrev bX (X : Cx) (s : Shared) (H : Hp) (scope : Scope) (C : Addr) (cl : List (Str × Addr)) (fp : List Addr) : Cx := X.blk s H scope (compEnvC scope cl C X.env) fp
theorem lc_ok {σ : L2.St} {H : Hp} {Q : VK} {vs : List Nat} (h : SEr X c (fLc fi vs g tt fe) σ H Q) : tLc (SIr X c fi) (SGr X (cC' c vs) g) (STr X (cC' c vs) tt) (SEr X (cC' c vs) fe) vs σ H Q := by
  obtain ⟨ρ, R, I, P⟩ := h
  refine ⟨ρ, R, I, (Post.bind.mp P).mono (fun _ _ i => i) fun items ρ0 P0 H0 J src I0 en D hD => ?_⟩
  have I1 : SI X c σ (upd H0 D (.lst [])) ρ0 (.nd (.lst true) false D 0 [] :: (src ++ R)) := I0.imp fun S w => W.lst (xs := []) w hD
  refine ⟨fun i m H' => m = items.length - i ∧ i ≤ items.length ∧ ∃ ρ' acc, SI X c (L2.wipe σ vs) H' ρ' (.nd (.lst true) false D 0 acc :: (src ++ R)) ∧
    Post X c σ R (fun acc' ρ' => KE X c σ R Q (.nd (.lst true) acc') ρ') (lcGo g tt fe vs (items.drop i) (erL acc) ρ'), ⟨_, rfl, Nat.zero_le _, wipeE ρ0 vs, [], I1.wipe vs, Post.bind.mp P0⟩, fun i m H1 hw => ?_⟩
  obtain ⟨rfl, hi, ρ1, acc, I1, P1⟩ := hw
  obtain ⟨ρA, eA, mA, wA⟩ := id I1
  have wA' : W (tab X c) H1 (src ++ (.nd (.lst true) false D 0 acc :: (R ++ slots ρA))) := wA.perm (perm_of fun f g h1 h2 h3 => by simp only [List.cons_append, h1, h2]; omega)
  obtain ⟨en1, en2⟩ := en i H1 _ wA'
  by_cases hlt : i < items.length
  · have ei : items[i]? = some items[i] := List.getElem?_eq_getElem hlt
    obtain ⟨go, yl⟩ := en1 _ ei
    refine .inr ⟨go, fun H' => ∃ ρ' acc, SI X c (L2.wipe σ vs) H' ρ' (.nd (.lst true) false D 0 acc :: (src ++ R)) ∧
      Post X c σ R (fun acc' ρ' => KE X c σ R Q (.nd (.lst true) acc') ρ') (lcGo g tt fe vs (items.drop (i + 1)) (erL acc) ρ'), fun H' hh => ⟨items.length - (i + 1), by omega, rfl, hlt, hh⟩, fun x H2 hy => ?_⟩
    obtain ⟨r, er1, rfl, w2⟩ := yl x H2 hy
    have I2 : SI X c (L2.wipe σ vs) H2 ρ1 (r :: (.nd (.lst true) false D 0 acc :: (src ++ R))) := ⟨ρA, eA, mA, w2.perm (perm_of fun f g h1 h2 h3 => by simp only [List.cons_append, h1, h2]; omega)⟩
    rw [List.drop_eq_getElem_cons hlt, lcGo] at P1
    dsimp only at P1
    refine ⟨r, ρ1, _, rfl, I2, ?_⟩
    rw [er1]
    cases hgx : g items[i] ρ1 with
    | ok u ρ3 =>
      rw [hgx] at P1
      intro σ3 H3 J3 k3
      have e3 := wipe_of_keep k3
      refine ⟨e3, ρ3, _, J3, ?_⟩
      have P2 := noX_post (c' := cC' c vs) (σ' := σ3) (R' := .nd (.lst true) false D 0 acc :: (src ++ R)) (Post.bind.mp P1)
      refine P2.mono (fun _ _ i => i) fun b ρ4 q4 H4 J4 => ?_
      cases b with
      | false =>
        simp only [Bool.false_eq_true, if_false] at q4 ⊢
        have := SI.wipe (X := X) (c := c) J4 vs
        rw [e3] at this
        exact ⟨wipeE ρ4 vs, acc, this, q4⟩
      | true =>
        simp only [if_true] at q4 ⊢
        refine ⟨ρ4, _, J4, ?_⟩
        have P3 := noX_post (c' := cC' c vs) (σ' := σ3) (R' := .nd (.lst true) false D 0 acc :: (src ++ R)) (Post.bind.mp q4)
        refine P3.mono (fun _ _ i => i) fun y ρ5 q5 ry H5 ey J5 => ?_
        split at q5
        · rename_i hsz
          obtain ⟨ρB, eB, mB, wB⟩ := id J5
          have hD5 : H5 D = some (.lst (acc.map val)) := ((okL_append.mp wB.ok).2.2.1).1.2
          refine ⟨acc.map val, hD5, by rw [List.length_map, ← len_erL]; exact hsz, wipeE ρ5 vs, acc ++ [ry], ?_, ?_⟩
          · have J6 : SI X c σ3 (upd H5 D (.lst ((acc ++ [ry]).map val))) ρ5 (.nd (.lst true) false D 0 (acc ++ [ry]) :: (src ++ R)) := J5.imp fun S w => by
              have w1 : W (tab X c) H5 (.nd (.lst true) false D 0 acc :: ([ry] ++ (src ++ R ++ S))) := w.perm (perm_of fun f g h1 h2 h3 => by simp only [List.cons_append, h1, h2, h3]; omega)
              exact lst_step (ys := acc ++ [ry]) (res := []) w1 ⟨[], by simp⟩
            have := J6.wipe vs
            rw [e3, List.map_append] at this
            exact this
          · rw [erL_map, List.map_append, ← erL_map]
            subst ey
            exact q5
        · exact q5.elim
    | exc e ρ' => rw [hgx] at P1; exact P1.elim
    | bad => rw [hgx] at P1; exact P1.elim
  · have ei : i = items.length := by omega
    subst ei
    refine .inl ⟨en2 (Nat.le_refl _), ?_⟩
    rw [List.drop_length] at P1
    exact P1 (.nd (.lst true) false D 0 acc) H1 (by rw [er]) (I1.unwipe.imp fun S w => by
      have w1 : W (tab X c) H1 (src ++ (.nd (.lst true) false D 0 acc :: (R ++ S))) := w.perm (perm_of fun f g h1 h2 h3 => by simp only [List.cons_append, h1, h2]; omega)
      exact w1.right)
section
variable (hc : X.calm = true) (hN : X.N.Nodup) (hi : SIt X c tg iter fi) (ok : BlkOk X.N X.env.scope scope own')
  (hg : ∀ (s : Shared) (H : Hp) (C : Addr) (cl : List (Str × Addr)) (fp : List Addr), SG (bX X s H scope C cl fp) (cC' c (ow own')) tg g)
  (ht : ∀ (s : Shared) (H : Hp) (C : Addr) (cl : List (Str × Addr)) (fp : List Addr), STs (bX X s H scope C cl fp) (cC' c (ow own')) ifs tt)
  (he : ∀ (s : Shared) (H : Hp) (C : Addr) (cl : List (Str × Addr)) (fp : List Addr), SE (bX X s H scope C cl fp) (cC' c (ow own')) elt fe)
include hc hN hi ok hg ht he
theorem se_lc (hs : ∀ x, foldedSetIterable iter X.env x = pure x := by intro _; rfl) : SE X c (.ListComp elt [⟨tg, iter, ifs, 0⟩] scope pos) (fLc fi (ow own') g tt fe) :=
  pe_imp (pe_lc (g := SGr X (cC' c (ow own')) g) (tt := STr X (cC' c (ow own')) tt) (te := SEr X (cC' c (ow own')) fe) hc hN hi ok hg ht he hs) fun σ H Q h => lc_ok h
/-- name = [..] on one line -/
theorem ss_setLc (i : Nat) {y : Str} {py spos : Pos} (hp : c.pr i = false) (hy : X.N[i]? = some y := by rfl) (hyl : X.env.scope.names.lookup y = some .local := by rfl)
    (hsw : swapsWith (.ListComp elt [⟨tg, iter, ifs, 0⟩] scope pos) (some (.Name y py)) spos.line X.env = pure true := by exact sw_true rfl rfl rfl (by decide +kernel)) (hs : ∀ x, foldedSetIterable iter X.env x = pure x := by intro _; rfl) :
    SS X c (.Assign [.Name y py] (.ListComp elt [⟨tg, iter, ifs, 0⟩] scope pos) spos) (sAsg (fLc fi (ow own') g tt fe) (gSet i)) :=
  ps_imp (ps_setLc (g := SGr X (cC' c (ow own')) g) (tt := STr X (cC' c (ow own')) tt) (te := SEr X (cC' c (ow own')) fe) hc hN hy hyl hsw hi ok hg ht he hs) fun D σ H h => by
    obtain ⟨ρ, R, I, P⟩ := h
    exact lc_ok (ss_then I P fun r H' ρ' I' q => q _ H' (I'.setv i) (.set hp))
end
end

/-! ### several targets at once -/
def sPar (fl : M (List T)) (gs : FGs) : FS := sBind fl fun ts ρ => match gs ts ρ with
  | .ok _ ρ' => .nx ρ'
  | _ => .bad
def lenIs (n : Nat) (fl : M (List T)) : M (List T) := fun ρ => match fl ρ with
  | .ok ts ρ' => if ts.length = n ∧ n ≤ sizeLine then .ok ts ρ' else .bad
  | o => o
section
variable {X : Cx} {c : Cu} {es tgs : List Expr} {fl : M (List T)} {gs : FGs} {pos : Pos} {a b d : Expr}
/-- .. by a tuple -/
theorem ss_parT {kt : Nat} {k2 : Nat} {pt pt2 : Pos} {n : Nat} (hc : X.calm = true) (ha : SL X c es fl) (hg : SGs X c tgs gs) (hn : (assignEach tgs X.env).length = n := by rfl) (hst : (assignEach tgs X.env).findIdx? (·.1) = none := by rfl)
    (hs : swapsWithSole [.Tuple tgs kt pt] (.Tuple es k2 pt2) pos.line X.env = pure false := by rfl) (hw : swappedStores [.Tuple tgs kt pt] (.Tuple es k2 pt2) X.env = pure none := by rfl)
    (h1 : (assignEach [.Tuple tgs kt pt] X.env).map (·.2) = [assign (.Tuple tgs kt pt) X.env] := by rfl) (hl : es.length = n := by rfl) : SS X c (.Assign [.Tuple tgs kt pt] (.Tuple es k2 pt2) pos) (sPar (lenIs n fl) gs) := ps_imp (ps_asg (pe_tup ha) (pg_tup hc hg hn hst) hs hw h1) fun D σ H h => by
  obtain ⟨ρ, R, I, P⟩ := h
  refine ⟨ρ, R, I, ?_⟩
  have P0 := sBind_post P
  unfold lenIs at P0
  cases hf : fl ρ with
  | ok ts ρ1 =>
    rw [hf] at P0
    dsimp only at P0
    split at P0
    · rename_i hlen
      intro rs H1 e1 I1
      subst e1
      rw [len_erL] at hlen
      refine ⟨by rw [List.length_map]; omega, fun p hp => ⟨p, rs.map val, rfl, .of upd_same, by rw [List.length_map]; exact hlen.1, rs, ρ1, R, rfl, I1.imp fun S w => w.laid hp, ?_⟩⟩
      have P1 : PostS X c σ R D (match gs (erL rs) ρ1 with
        | .ok _ ρ' => .nx ρ'
        | _ => .bad) := P0
      split at P1
      · rename_i u ρ2 e2
        rw [e2]
        exact P1
      · exact P1.elim
    · exact P0.elim
  | exc e ρ' => rw [hf] at P0; exact P0
  | bad => rw [hf] at P0; exact P0.elim
/-- x, y = a, b, both local -/
theorem ss_par2 (i j : Nat) {x y : Str} {px py pt : Pos} {kt k2 pt2} (hc : X.calm = true) (hN : X.N.Nodup) (ha : SL X c [a, b] fl) (hp : c.pr i = false) (hq : c.pr j = false) (hi : X.N[i]? = some x := by rfl) (hj : X.N[j]? = some y := by rfl) (hij : i ≠ j := by decide)
    (hx : X.env.scope.names.lookup x = some .local := by rfl) (hy : X.env.scope.names.lookup y = some .local := by rfl)
    (hw : swappedStores [.Tuple [.Name x px, .Name y py] kt pt] (.Tuple [a, b] k2 pt2) X.env = pure (some [x, y]) := by rfl)
    (hs : swapsWithSole [.Tuple [.Name x px, .Name y py] kt pt] (.Tuple [a, b] k2 pt2) pos.line X.env = pure false := by rfl) :
    SS X c (.Assign [.Tuple [.Name x px, .Name y py] kt pt] (.Tuple [a, b] k2 pt2) pos) (sPar fl (gsCons (gSet i) (gsCons (gSet j) gsNil))) := ps_imp (ps_par hc hN hi hj hij hx hy ha hw hs) fun D σ H h => by
  obtain ⟨ρ, R, I, P⟩ := h
  refine ssL_then I P fun rs H1 ρ1 I1 q => ?_
  match rs, q, I1 with
  | [r, s], q, I1 =>
    refine ⟨val r, val s, rfl, ?_⟩
    exact q _ H1 ((I1.setv i).setv j) ((Keep.set hp).trans (Keep.set hq))
  | [], q, _ => exact q.elim
  | [_], q, _ => exact q.elim
  | _ :: _ :: _ :: _, q, _ => exact q.elim
end
end Tr
end

section
set_option Elab.async false
set_option linter.all false
set_option autoImplicit false
set_option maxRecDepth 100000
/-! Subscripts and fields of values; pop, insert, +=. -/
namespace Tr
open PySem PySem.Spec PyProof.Rows L2

theorem W.child {B : Tab} {H : Hp} {R : List A} {k : NK} {w : Bool} {a dx : Addr} {xs : List A} {j : Nat} {y : A} (h : W B H (.nd k w a dx xs :: R)) (e : xs[j]? = some y) : W B H (y :: R) := by
  have h1 : W B H (xs ++ R) := W.open h
  obtain ⟨l, p, _⟩ := set_perm y e
  have h2 : W B H (l ++ (y :: R)) := h1.perm (by
    have q := (p.append_right R).symm
    exact (perm_of fun f g h1 h2 h3 => by simp only [List.cons_append, h1, h2]; omega).trans q)
  exact h2.right
/-- x[i] of values -/
def gIxS (z : Str) : T → Option T
  | .int i => if z.length ≤ sizeLine then (atI z.cps.toList i).map fun c => .str ⟨#[c]⟩ else none
  | _ => none
def gIxN (k : NK) (xs : List T) (i : T) : Option T := match atomV i with
  | some _ => (posIx (.nd k xs) i).bind fun j => xs[j]?
  | none => none
def gIxT : T → T → Option T
  | .str z, i => gIxS z i
  | .nd k xs, i => gIxN k xs i
  | _, _ => none
theorem sim_ix {B : Tab} : Sim2 B (rIxA B.K) gIxT := fun H x y R t Q w e hz => by
  cases hx : er x with
  | str z =>
    rw [hx] at e
    simp only [gIxT] at e
    unfold gIxS at e
    split at e
    · rename_i i h2
      split at e
      · rename_i hl
        cases ec : atI z.cps.toList i with
        | none => rw [ec] at e; cases e
        | some ch =>
          rw [ec] at e
          cases e
          rw [er_str hx, er_int h2]
          exact .inr (.inr (.inr ⟨z, i, ch, rfl, rfl, hl, ec, hz (.str _) H rfl w.drop.drop.str⟩))
      · cases e
    · cases e
  | nd k xs =>
    rw [hx] at e
    simp only [gIxT] at e
    unfold gIxN at e
    split at e
    · rename_i v ev
      obtain ⟨w1, a1, d1, zs, rfl, rfl⟩ := er_nd hx
      cases ej : posIx (.nd k (erL zs)) (er y) with
      | none => rw [ej] at e; cases e
      | some j =>
        rw [ej] at e
        simp only [Option.bind_some] at e
        rw [erL_get] at e
        cases ey : zs[j]? with
        | none => rw [ey] at e; cases e
        | some u =>
          rw [ey] at e
          have eu : er u = t := Option.some.inj e
          have q := hz u H eu (W.child w.drop ey)
          have := ix_read (B := B) (Q := Q) w.drop.head (by rw [er]; exact ej) ev ey q
          rw [atom_er ev]
          exact this
    · cases e
  | _ => rw [hx] at e; cases e
section
variable {X : Cx} {c : Cu} {a b e o : Expr} {pos pos' : Pos} {fa fb fe : M T}
theorem se_ix (hu : X.A.units + 1 < cLine) (ha : SE X c a fa) (hb : SE X c b fb) (hs : PlainIx b := by exact fun _ _ => rfl) : SE X c (.Subscript a b pos) (f2 gIxT fa fb) :=
  pe_imp (pe_ix (ix_all hu) ha hb hs) fun _ _ _ h => f2_ok sim_ix h
/-- x.f of a value -/
def gFld (f : Str) : T → Option T
  | .nd (.obj _ _ ns) xs => (kpos f ns).bind fun j => xs[j]?
  | _ => none
theorem se_fld {f : Str} (ha : SE X c a fa) (hb : attributeBase a f X.env (eval a X.env) = eval a X.env := by rfl) : SE X c (.Attribute a f pos) (f1 (gFld f) fa) := pe_imp (pe_fld ha hb) fun σ H Q h => by
  obtain ⟨ρ, R, I, P⟩ := h
  refine se_then I P fun x H1 ρ1 I1 P1 => ?_
  obtain ⟨t, e, q⟩ := P1.lift
  unfold gFld at e
  split at e
  · rename_i m cn ns xs h1
    obtain ⟨w1, a1, d1, zs, rfl, rfl⟩ := er_nd h1
    cases ej : kpos f ns with
    | none => rw [ej] at e; cases e
    | some j =>
      rw [ej] at e
      simp only [Option.bind_some] at e
      rw [erL_get] at e
      cases ey : zs[j]? with
      | none => rw [ey] at e; cases e
      | some u =>
        rw [ey] at e
        have eu : er u = t := Option.some.inj e
        obtain ⟨ρA, eA, m', w⟩ := id I1
        have ok := (okL_append.mp w.ok).2.1
        obtain ⟨C, fs, g1, g2, g3, g4⟩ := fld_of (f := f) (B := tab X c) ok (by rw [er]; exact ej) ey
        exact ⟨a1, C, d1, fs, val u, rfl, g1, g2, g3, g4, q u H1 eu (I1.imp fun S w => W.child w ey)⟩
  · cases e
/-- pop, insert, clear -/
def mPop : T → List T → Option (T × T)
  | .nd (.lst true) xs, [] => match xs[xs.length - 1]? with
    | some t => some (t, .nd (.lst true) xs.dropLast)
    | none => none
  | _, _ => none
theorem sim_pop {B : Tab} : SimM B "list" rPop isLst mPop := ⟨ty_lst, fun H leaf rs S t lt Q w g k => by
  unfold mPop at g
  split at g
  · rename_i xs e1 e2
    obtain ⟨a, dx, ys, rfl, rfl, hh⟩ := er_olst e1 w.head
    have := er_nil e2
    subst this
    rw [len_erL, erL_get] at g
    cases el : ys[ys.length - 1]? with
    | none => rw [el] at g; cases g
    | some y =>
      rw [el] at g
      cases g
      refine ⟨a, ys.map val, val y, rfl, rfl, hh, by rw [List.length_map, List.getElem?_map, el]; rfl, ?_⟩
      have hne : ys ≠ [] := fun z => by rw [z] at el; cases el
      have hlast : ys.dropLast ++ [y] = ys := by
        have h1 : ys.getLast hne = y := by
          rw [List.getLast_eq_getElem]
          have hlt : ys.length - 1 < ys.length := by have := List.length_pos_iff.mpr hne; omega
          rw [List.getElem?_eq_getElem hlt] at el
          exact Option.some.inj el
        rw [← h1]
        exact List.dropLast_concat_getLast hne
      have w2 := lst_step (ys := ys.dropLast) (rs := []) (res := [y]) w ⟨[], by simp [hlast]⟩
      rw [← List.map_dropLast]
      exact k y (.nd (.lst true) false a dx ys.dropLast) _ rfl (by rw [er, erL_map, erL_map, List.map_dropLast]) rfl w2
  · cases g⟩
def mPopAt : T → List T → Option (T × T)
  | .nd (.lst true) xs, [.int i] => if -(2 ^ 63) ≤ i ∧ i < 2 ^ 63 then match seqIndex? i xs.length with
      | some j => match xs[j]? with
        | some t => some (t, .nd (.lst true) (xs.eraseIdx j))
        | none => none
      | none => none
    else none
  | _, _ => none
theorem erase_perm {α : Type} : ∀ {xs : List α} {i : Nat} {x : α}, xs[i]? = some x → xs.Perm (x :: xs.eraseIdx i)
  | [], _, _, h => by simp at h
  | x :: xs, 0, z, h => by simp at h; subst h; exact .refl _
  | x :: xs, i + 1, z, h => by
    have h1 := erase_perm (xs := xs) (i := i) (by simpa using h)
    exact (h1.cons x).trans (.swap _ _ _)
theorem map_eraseIdx {α β : Type} (f : α → β) : ∀ (xs : List α) (i : Nat), (xs.eraseIdx i).map f = (xs.map f).eraseIdx i
  | [], _ => rfl
  | x :: xs, 0 => rfl
  | x :: xs, i + 1 => by rw [List.eraseIdx_cons_succ, List.map_cons, map_eraseIdx f xs i]; rfl
theorem sim_popAt {B : Tab} : SimM B "list" rPopAt isLst mPopAt := ⟨ty_lst, fun H leaf rs S t lt Q w g k => by
  unfold mPopAt at g
  split at g
  · rename_i xs i e1 e2
    obtain ⟨a, dx, ys, rfl, rfl, hh⟩ := er_olst e1 w.head
    obtain ⟨r, rfl, er1⟩ := er_one e2
    have := er_int er1
    subst this
    split at g
    · rename_i hi
      rw [len_erL] at g
      split at g
      · rename_i j ej
        rw [erL_get] at g
        cases el : ys[j]? with
        | none => rw [el] at g; cases g
        | some y =>
          rw [el] at g
          cases g
          refine ⟨a, ys.map val, i, j, val y, rfl, rfl, hh, hi.1, hi.2, by rw [List.length_map]; exact ej, by rw [List.getElem?_map, el]; rfl, ?_⟩
          have w0 : W B H (.nd (.lst true) false a dx ys :: ([] ++ S)) := W.drop (W.swap w)
          have w2 := lst_step (ys := ys.eraseIdx j) (rs := []) (res := [y]) (S := S) w0 ⟨[], by
            rw [List.append_nil, List.nil_append]
            exact (erase_perm el).trans (perm_of fun f g h1 h2 h3 => by simp only [h1, h2, h3]; omega)⟩
          rw [← map_eraseIdx]
          exact k y (.nd (.lst true) false a dx (ys.eraseIdx j)) _ rfl (by rw [er, erL_map, erL_map, map_eraseIdx]) rfl w2
      · cases g
    · cases g
  · cases g⟩
def mInsert : T → List T → Option (T × T)
  | .nd (.lst true) xs, [.int i, t] => if xs.length < sizeLine ∧ 0 ≤ i ∧ i < 2 ^ 63 then some (.non, .nd (.lst true) (xs.take i.toNat ++ [t] ++ xs.drop i.toNat)) else none
  | _, _ => none
theorem sim_insert {B : Tab} : SimM B "list" (fun x vs H Q => ∃ (l : Addr) (xs : List V) (i : Int) (y : V), x = .ref l ∧ vs = [.int i, y] ∧ H l = some (.lst xs) ∧ xs.length < sizeLine ∧ 0 ≤ i ∧ i < 2 ^ 63 ∧ Q .non (upd H l (.lst (xs.take i.toNat ++ [y] ++ xs.drop i.toNat)))) isLst mInsert := ⟨ty_lst, fun H leaf rs S t lt Q w g k => by
  unfold mInsert at g
  split at g
  · rename_i xs i u e1 e2
    obtain ⟨a, dx, ys, rfl, rfl, hh⟩ := er_olst e1 w.head
    obtain ⟨r, s, rfl, er1, er2⟩ := er_two e2
    have := er_int er1
    subst this
    subst er2
    split at g
    · rename_i hi
      rw [len_erL] at hi
      cases g
      refine ⟨a, ys.map val, i, val s, rfl, rfl, hh, by rw [List.length_map]; exact hi.1, hi.2.1, hi.2.2, ?_⟩
      have w0 : W B H (.nd (.lst true) false a dx ys :: ([s] ++ S)) := w.swap.drop
      have w2 := lst_step (ys := ys.take i.toNat ++ [s] ++ ys.drop i.toNat) (rs := [s]) (res := []) w0 ⟨[], by
        have h : ys = ys.take i.toNat ++ ys.drop i.toNat := (List.take_append_drop _ _).symm
        conv => lhs; rw [h]
        exact perm_of fun f g h1 h2 h3 => by simp only [List.nil_append, List.append_nil, h1, h2, h3]; omega⟩
      have em : (ys.take i.toNat ++ [s] ++ ys.drop i.toNat).map val = (ys.map val).take i.toNat ++ [val s] ++ (ys.map val).drop i.toNat := by rw [List.map_append, List.map_append, List.map_take, List.map_drop]; rfl
      rw [em] at w2
      exact k .non (.nd (.lst true) false a dx (ys.take i.toNat ++ [s] ++ ys.drop i.toNat)) _ rfl (by rw [er, erL_map, erL_map, List.map_append, List.map_append, List.map_take, List.map_drop]; rfl) rfl w2.non.swap
    · cases g
  · cases g⟩
/-- x += e at a name: ints, lists -/
def rIaddA : R2 := fun x y H Q => rI0 (fun i j => .int (i + j)) x y H Q ∨ rExt2 x y H Q
theorem iop_addA : OpR X (inplaceOp .Add) rIaddA := iop_add.or iop_ext
def augAdd : T → T → Option T
  | .int i, .int j => some (.int (i + j))
  | .nd (.lst true) xs, .nd (.lst _) ys => if xs.length + ys.length ≤ sizeLine then some (.nd (.lst true) (xs ++ ys)) else none
  | _, _ => none
def sAug (j : Nat) (fe : M T) : FS := fun ρ => match ρ[j]? with
  | some (some _) => sBind fe (fun t ρ => match ρ[j]? with
    | some (some l) => match augAdd l t with
      | some l' => .nx (ρ.set j (some l'))
      | none => .bad
    | _ => .bad) ρ
  | _ => .bad
theorem ss_aug (j : Nat) {x : Str} {p : Pos} (hN : X.N.Nodup) (he : SE X c e fe) (hp : c.pr j = false) (hi : X.N[j]? = some x := by rfl) (hx : Loc X.env.scope x := by first | exact .inl rfl | exact .inr rfl) (hf : X.fn x = true ∨ X.env.scope.names.lookup x = some .local := by first | exact .inl rfl | exact .inr rfl | assumption) :
    SS X c (.AugAssign (.Name x p) .Add e pos) (sAug j fe) := ps_imp (ps_aug (ti := fun x y H Q => rIaddA x y H Q) hN hi hx he iop_addA hf) fun D σ H h => by
  obtain ⟨ρ, R, I, P⟩ := h
  unfold sAug at P
  split at P
  · rename_i t0 et
    obtain ⟨ρA, eA, m, w⟩ := id I
    subst eA
    obtain ⟨r0, er0, _⟩ := erE_some et
    refine ⟨val r0, m.at_ j r0 er0, ?_⟩
    refine ss_then I P fun y H1 ρ1 I1 q => ?_
    obtain ⟨ρB, eB, mB, wB⟩ := I1
    subst eB
    split at q
    · rename_i l el
      obtain ⟨r1, er1, er1t⟩ := erE_some el
      subst er1t
      have hv : val r1 = val r0 := by
        have a1 := mB.at_ _ _ er1
        rw [m.at_ j r0 er0] at a1
        exact (Option.some.inj (Option.some.inj a1)).symm
      have hlt : j < ρB.length := (List.getElem?_eq_some_iff.mp er1).1
      split at q
      · rename_i l' eg
        rw [← hv]
        have w1 : W (tab X c) H1 (r1 :: (y :: (slots (ρB.set j none) ++ R))) := (wB.take er1).perm (perm_of fun f g h1 h2 h3 => by simp only [List.cons_append, h1, h2]; omega)
        have fin : ∀ (r' : A) (H' : Hp), er r' = l' → W (tab X c) H' (r' :: (slots (ρB.set j none) ++ R)) → D.nx (σ.set j (some (val r'))) H' := fun r' H' e' w' => by
          refine q (σ.set j (some (val r'))) H' ⟨ρB.set j (some r'), by rw [erE_set, Option.map_some, e'], ?_, w'.put hlt⟩ (.set hp)
          exact mB.store
        unfold augAdd at eg
        split at eg
        · rename_i i k h1 h2
          cases eg
          rw [er_int h1, er_int h2] at w1 ⊢
          exact .inl ⟨i, k, rfl, rfl, fin (.int (i + k)) H1 rfl w1.drop.drop.int⟩
        · rename_i xs m2 ys h1 h2
          split at eg
          · rename_i hl
            cases eg
            obtain ⟨a, dx, zs, rfl, rfl, hh⟩ := er_olst h1 w1.head
            obtain ⟨w2, a2, d2, us, rfl, rfl⟩ := er_nd h2
            rw [len_erL, len_erL] at hl
            have ok2 := w1.drop.head
            refine .inr ⟨a, a2, zs.map val, us.map val, rfl, rfl, hh, ok2.1.2, by rw [List.length_map, List.length_map]; exact hl, ?_⟩
            have w3 : W (tab X c) H1 (.nd (.lst true) false a dx zs :: (us ++ (slots (ρB.set j none) ++ R))) := by
              have := W.open w1.swap
              exact this.perm (perm_of fun f g h1 h2 h3 => by simp only [h1, h2]; omega)
            have w4 := lst_step (ys := zs ++ us) (rs := us) (res := []) w3 ⟨[], by simp⟩
            rw [List.map_append] at w4
            exact fin (.nd (.lst true) false a dx (zs ++ us)) _ (by rw [er, erL_map, erL_map, erL_map, List.map_append]) w4
          · cases eg
        · cases eg
      · exact q.elim
    · exact q.elim
  · exact P.elim
end
end Tr

namespace Tr
open PySem PySem.Spec PyProof.Rows L2
section
variable {X : Cx} {c : Cu} {pos : Pos}
/-- a name given back: its object goes with it -/
def fMv (i : Nat) : M T := fun ρ => match ρ[i]? with
  | some (some t) => .ok t (ρ.set i none)
  | _ => .bad
theorem se_mv (i : Nat) {x : Str} (hN : X.N[i]? = some x := by rfl) (hv : Vis X.env.scope x := by first | exact Or.inl rfl | exact Or.inr (Or.inl rfl) | exact Or.inr (Or.inr rfl)) (hd : (x == ("__debug__" : Str)) = false := by decide)
    (hcd : (x == ("__classdict__" : Str)) = false := by decide) : SE X c (.Name x pos) (fMv i) := pe_imp (pe_var hN hv hd hcd) fun σ H Q h => by
  obtain ⟨ρ, R, I, P⟩ := h
  unfold fMv at P
  split at P
  · rename_i t e
    obtain ⟨ρA, eA, m, w⟩ := I
    subst eA
    obtain ⟨r, er1, et⟩ := erE_some e
    exact ⟨val r, m.at_ i r er1, P r H et ⟨ρA.set i none, by rw [erE_set]; rfl, m.unset, (w.take er1).toMid⟩⟩
  · exact P.elim
/-- a module's tuple of atoms -/
theorem se_globT {x : Str} {a : Addr} {vs : List A} {p : Pos} (hm : X.mg x = some (.ref a)) (hs : ∀ H, SqT X.K H a (vs.map val)) (ho : ownL vs = [] ∧ frzL vs = [] ∧ ∀ B H, OkL B H vs) (hg : Gl X x := by rfl) (hd : (x == ("__debug__" : Str)) = false := by decide) :
    SE X c (.Name x p) (M.ret (.nd .tup (erL vs))) := by
  have h : SE X c (.Name x p) (M.ret (er (.nd .tup true a 0 vs))) := se_const (f' := tC .non) (pe_glob (v := .ref a) hg hm rfl hd) rfl fun {H R} w => W.atom w (by rw [own, ho.1]; rfl) (by rw [frz, ho.2.1]; rfl) ⟨hs, ho.2.2 _ _, fun _ => ho.1⟩
  rw [er] at h
  exact h
/-- a module's int or text -/
theorem se_globI {x : Str} {i : Int} {p : Pos} (hm : ∃ t, X.mg x = some (.int i t)) (hg : Gl X x := by rfl) (hd : (x == ("__debug__" : Str)) = false := by decide) : SE X c (.Name x p) (M.ret (.int i)) := by
  obtain ⟨t, hm⟩ := hm
  exact se_const (f' := tC .non) (x := .int i) (pe_glob (v := .int i) hg hm ⟨t, rfl⟩ hd) rfl fun w => w.int
theorem se_globS {x : Str} {i : Str} {p : Pos} (hm : ∃ t, X.mg x = some (.str i t)) (hg : Gl X x := by rfl) (hd : (x == ("__debug__" : Str)) = false := by decide) : SE X c (.Name x p) (M.ret (.str i)) := by
  obtain ⟨t, hm⟩ := hm
  exact se_const (f' := tC .non) (x := .str i) (pe_glob (v := .str i) hg hm ⟨t, rfl⟩ hd) rfl fun w => w.str
theorem lets_b {s : Shared} {H : Hp} {scope : Scope} {C : Addr} {cl : List (Str × Addr)} {fp : List Addr} {vs : List Nat} : Lets (bX X s H scope C cl fp) (cC' c vs) (L2.CX X.prog X.w) := fun σ pins H s e s' I h => by
  obtain ⟨_, _, _, _, _, _, _, _, _, _, _, _, z⟩ := h
  exact z.elim
end
section
variable {P : Program} {w : World} {K : PySem.W.Frag} {mg : Str → Option Value} {base : Heap} {N : List Str} {qual : Str} {sc : Scope} {f : Addr} {cdv : Value} {A : Around} {outer : List PySem.Env} {s : Shared} {H : Hp} {E : XK} {ct : Nat → Addr} {ef : Nat → List Str} {pr : List Bool}
theorem lets_d : Lets (dX P w K mg base N qual sc f cdv A outer s H E) (dC ct ef E pr) (L2.CX P w) := fun σ => passAt (X := dX P w K mg base N qual sc f cdv A outer s H E) (W := fun cls d _ H => E cls d H) (takes_of rfl rfl rfl rfl) σ
theorem own_d : PassesOwn (model P w) (dX P w K mg base N qual sc f cdv A outer s H E).A (dX P w K mg base N qual sc f cdv A outer s H E).env (dX P w K mg base N qual sc f cdv A outer s H E).xe := passes_of rfl
end
end Tr
end

section
set_option Elab.async false
set_option linter.all false
set_option autoImplicit false
set_option maxRecDepth 100000
/-! Own exceptions over ValueError whose __init__ says super().__init__(..). -/
namespace Tr
open PySem PySem.Spec PyProof.Rows L2 NdefX
abbrev Frag' := PySem.W.Frag
/-- what the written part says of such a class -/
structure SupC (K : PySem.W.Frag) (C : Addr) : Prop where
  T : OexC K C
  mro : PySem.W.mroIn K C (.ref C) = some true
  sup : PySem.W.ks_superIn K C C "__init__" = some (some (.builtin "ValueError.__init__"))
  ve : PySem.W.subIn K (.ref C) (.type "ValueError") = some true
  opq : PySem.W.nsIn K cStatics "thirdparty.any" = some none
  sp : PySem.W.nsIn K mainGlobals "super" = some none
/-- such an __init__, as it stands behind the top -/
structure FunS (P : Program) (K : PySem.W.Frag) (x qual : Str) (st : Stmt) (f : Addr) (fd : FuncData) (C : Addr) : Prop where
  ex : ∃ (oc : Value) (od : Option Addr) (doc pm ct : Value) (osl : Array (Option Value)) (cc cda : Addr) (cl ccl : Value) (cld cdd : Option Addr) (csl ccs : Array (Option Value)) (vs : Array Value) (file : Str) (tf : Tok),
    fd = (NF.of st x qual [("__class__", cc)] cda).fd doc pm ct ∧ K.lookup f = some ⟨oc, od, .func fd, osl⟩ ∧ PySem.W.codeIn K (.ref cda) qual = true ∧ K.lookup cc = some ⟨cl, cld, .cell (some (.ref C)), csl⟩ ∧ K.lookup cda = some ⟨ccl, cdd, .fields vs, ccs⟩ ∧ vs[2]? = some (.str file tf) ∧ ((P.main.file : Str) == file) = true
section
variable {CX : CXT} {P : Program} {w : World} {K : PySem.W.Frag} {mg : Str → Option Value} {base : Heap} {N : List Str} {F : NF} {f : Addr} {A : Around} {outer : List PySem.Env} {s0 s : Shared} {H0 H : Hp} {E0 : XK} {σ : L2.St}
theorem sup_call {u x : Addr} {C : Addr} {nm q : Str} {N : Addr} {bs bm : List Value} {hdct : Bool} {sn : List Str} {sub : List Value} {ab : Bool} {col : Option Bool} {dd : Option Addr} {k0 k1 k2 k3 k5 : Option Value} {h : Heap} {g : Array GenState} {d : Drawn} {t : Nat} {os : OsState} {t0 : Addr} {rest : List Value} {E : Value → Shared → Prop} {Q : Value → Shared → Prop}
    (hC : h.get? C = some (excClassObj nm q C N bs bm hdct sn sub ab col dd k0 k1 k2 k3 k5 "ValueError.__new__")) (he : h.get? x = some (PySem.HandSPX.excO C t0)) (hu : h.get? u = some (PySem.W.kxs_mw "ValueError.__init__" x)) (hrest : rest.length ≤ sizeLine)
    (hq : ∀ h' t1, (∀ b o, b ≠ x → h.get? b = some o → h'.get? b = some o) → h'.get? x = some (PySem.HandSPX.excO C t1) → Q .none ⟨h', g, d, t, os⟩) :
    wpAny (model P w) A (call (.ref u) rest) Q E ⟨h, g, d, t, os⟩ := by
  refine wpAny_call (codeAny_of_tree ?_)
  show wpAny _ A.in1 (callAny (.ref u) ⟨rest, []⟩) _ _ _
  simp only [callAny]
  refine wpAny_bind (wpAny_load hu ?_)
  simp only [PySem.W.kxs_mw, show (Value.type "method-wrapper" == Value.type "method" || Value.type "method-wrapper" == Value.type "builtin_function_or_method" || Value.type "method-wrapper" == Value.type "method-wrapper") = true by decide, if_true]
  refine PySem.W.KFB.if_so (by decide) ?_
  refine wpAny_bind (PySem.W.check_bound_init PySem.F.excBase_ValueError.toExcCallFacts hC he rfl ?_)
  refine wpAny_bind (wpAny_pure (wpAny_pure ?_))
  refine ⟨plainId_quiet PySem.F.excBase_ValueError.init.plain _, codeAny_builtin PySem.F.excBase_ValueError.initEntry ?_⟩
  refine PySem.W.exc_init_tree (cls := .ref C) (t0 := t0) (dv := none) (c2 := .none) (c3 := .none) (b4 := .bool false) he hrest fun h' k e' t' => ?_
  exact hq h' h.objs.size k e'

abbrev sF (st : Stmt) (x qual : Str) (cc cda : Addr) : NF := NF.of st x qual [("__class__", cc)] cda
abbrev sX (CX : CXT) (P : Program) (w : World) (K : PySem.W.Frag) (mg : Str → Option Value) (base : Heap) (N : List Str) (F : NF) (f : Addr) (A : Around) (outer : List PySem.Env) (s0 : Shared) (H0 : Hp) (E0 : XK) : Cx := ncx CX P w K mg base N F f A outer s0 H0 E0
theorem free_ne {H : Hp} {s : Shared} {X : Cx} {pins : List (Addr × Obj)} {σ : L2.St} (I : Inv X pins σ H s) {u : Addr} {o : Obj} (hu : s.heap.objs.size ≤ u) {h' : Heap} (k : ∀ b ob, s.heap.get? b = some ob → h'.get? b = some ob) (ho : h'.get? u = some o) (hd : ∀ v, o.data ≠ .cell v) {t' : Nat} :
    Inv X [(u, o)] σ H { s with heap := h', toks := t' } := by
  have J : Inv X pins σ H { s with heap := h', toks := t' } := I.kept k
  refine J.pins_of fun p hp => ?_
  obtain rfl : p = (u, o) := by simpa using hp
  refine ⟨ho, I.hok.fresh hu, fun z => ?_, I.nofs hu, hd⟩
  have q := I.lt
  rw [← z] at q
  exact absurd (Nat.lt_of_lt_of_le q hu) (Nat.lt_irrefl _)
/-- how the call is read -/
def SupEv (env : PySem.Env) (e : Expr) (p0 p1 p2 p3 : Pos) : Prop := ∃ pl : Sem Bool, eval (.Call (.Attribute (.Call (.Name "super" p0) [] [] p1) "__init__" p2) [e] [] p3) env = (do
      let ov ← attributeBase (.Call (.Name "super" p0) [] [] p1) "__init__" env (eval (.Call (.Name "super" p0) [] [] p1) env)
      standAt p2.atName
      let (f, first) ← holding [ov] (getMethod ov "__init__" pl)
      callWith p3 f first (backTo p3 (starEach [e] env)) [])
/-- the first statement: super().__init__(e) -/
theorem sup_stmt {x qual : Str} {st : Stmt} {fd : FuncData} {C cc cda a : Addr} {doc pm ct oc : Value} {od : Option Addr} {osl : Array (Option Value)} {cl ccl : Value} {cld cdd : Option Addr} {csl ccs : Array (Option Value)} {vs : Array Value} {file : Str} {tf : Tok} {ar : Arg}
    {e : Expr} {te : TE} {p0 p1 p2 p3 p4 : Pos} {body : List Stmt} {Q : Flow → Shared → Prop} {X : Cx} (hX : X = sX CX P w K mg base N (sF st x qual cc cda) f A outer s0 H0 E0)
    (S : SupC K C) (hfd : fd = (sF st x qual cc cda).fd doc pm ct) (lk : K.lookup f = some ⟨oc, od, .func fd, osl⟩) (lcc : K.lookup cc = some ⟨cl, cld, .cell (some (.ref C)), csl⟩) (lcd : K.lookup cda = some ⟨ccl, cdd, .fields vs, ccs⟩) (hvs : vs[2]? = some (.str file tf)) (hfile : ((P.main.file : Str) == file) = true)
    (hp : ((C8.fnArgs st).posonlyargs ++ (C8.fnArgs st).args).head? = some ar) (hN : N[0]? = some ar.arg) (hkd : (C8.fnScope st).kind = .function) (hks : (C8.fnScope st).names.lookup ("super" : Str) = some NameKind.globalImplicit) (hkc : (C8.fnScope st).names.lookup ("__class__" : Str) = some NameKind.free) (hka : (C8.fnScope st).names.lookup ar.arg = some NameKind.local)
    (htop : (P.main.scope.names.lookup ("super" : Str)).isSome = false) (hmg : mg "super" = none)
    (I : Inv X [] σ H s) (h0 : σ[0]? = some (some (.ref a))) (ea : H a = some (exo a C none))
    (he : PE X e te) (hte : te σ H fun v H1 => [v].length = 1 ∧ H1 a = some (exo a C none) ∧ ∀ s', Inv X [] σ H1 s' → Q .next s')
    {pl : Sem Bool} (hev : eval (.Call (.Attribute (.Call (.Name "super" p0) [] [] p1) "__init__" p2) [e] [] p3) X.env = (do
      let ov ← attributeBase (.Call (.Name "super" p0) [] [] p1) "__init__" X.env (eval (.Call (.Name "super" p0) [] [] p1) X.env)
      standAt p2.atName
      let (f, first) ← holding [ov] (getMethod ov "__init__" pl)
      callWith p3 f first (backTo p3 (starEach [e] X.env)) []))
    (hst : starEach [e] X.env = [(false, eval e X.env)]) (hsw : swapsWith (.Call (.Attribute (.Call (.Name "super" p0) [] [] p1) "__init__" p2) [e] [] p3) none p4.line X.env = pure false) :
    _root_.PySem.wpAt (model P w) X.A (.func body X.env) (exec (.Expr (.Call (.Attribute (.Call (.Name "super" p0) [] [] p1) "__init__" p2) [e] [] p3) p4) X.env) Q X.xe s := by
  subst hX
  obtain ⟨nm, q, Nn, bs, bm, sn, sub, ab, col, dd, k0, k1, k2, k3, k5, hC, hbm⟩ := S.T.cls
  have hcl : PySem.W.clsIn K C = some { name := nm, bases := bs, mro := .ref C :: bm, ns := Nn, qualname := q, hasDict := true, slotNames := sn, subclasses := sub, abstract := ab, collection := col, hasDel := false } := by unfold PySem.W.clsIn; rw [hC] <;> rfl
  have XK : K.In s.heap := I.kIn
  obtain ⟨t1, ho⟩ := exo_at I.hok ea
  obtain ⟨m, hns, hloc⟩ := I.loc
  obtain ⟨uself, ru, lself⟩ := hloc 0 ar.arg (.ref a) hN h0 (.inl hka)
  obtain rfl : uself = Value.ref a := ru
  have hself : m ar.arg = some (.ref a) := by
    rcases lself with ⟨_, q⟩ | ⟨q, _⟩
    · exact q
    · exfalso
      have q' : (C8.fnScope st).names.lookup ar.arg = some .cell ∨ (C8.fnScope st).names.lookup ar.arg = some .free := q
      rw [hka] at q'
      rcases q' with z | z <;> cases z
  have oC : s.heap.get? C = some (excClassObj nm q C Nn bs bm true sn sub ab col dd k0 k1 k2 k3 k5 "ValueError.__new__") := XK _ _ hC
  have haC : a ≠ C := fun z => by
    rw [z, oC] at ho
    cases ho
  refine PySem.ks_wpAt_Expr_any ?_ (by exact I.quiet) hsw
  refine PySem.ks_wpAt_MethodCall (pl := pl) ?_ hev
  refine PySem.ks_wpAt_super_base (fd := fd) (cc := cda) hks hkc (by decide) rfl (XK _ _ lk) rfl (by rw [hfd]; exact hp) rfl (XK _ _ lcd) rfl hvs hfile htop ?_
  obtain ⟨mb, b1, b2⟩ := I.mod.blt
  refine PySem.W.ks_loadName_global hkd hks (Calls.loadGlobal_builtin (by rw [I.ok.glob]; exact I.mod.glob.keeps I.bk) hmg (by rw [I.ok.blt]; exact b1.keeps I.bk) ((b2 "super" (by decide)).trans (by rfl)) ⟨rfl, ?_⟩)
  refine wpAny_loadName_free hkd hkc rfl ⟨_, XK _ _ lcc, rfl⟩ ?_
  refine wpAny_loadName_local hkd hka hns hself ?_
  refine PySem.ks_wpAny_isType_cls oC rfl ⟨rfl, ?_⟩
  obtain ⟨hh, g, d, t, os⟩ := s
  refine PySem.ks_wpAny_call_super oC rfl ho rfl (fun c z => by cases z) (PySem.W.looks_mroIn XK S.mro) (fun h1 e1 k1' => ?_)
  have sup := S.sup
  unfold PySem.W.ks_superIn at sup
  rw [hcl] at sup
  have ho1 := k1' _ _ ho
  have X1 : K.In h1 := XK.keeps k1'
  have I1 : Inv (sX CX P w K mg base N (sF st x qual cc cda) f A outer s0 H0 E0) [] σ H ⟨h1, g, d, t, os⟩ := I.kept (t' := t) k1'
  refine PySem.W.kxs_getMethod PySem.W.kxs_ValueError e1 (PySem.W.looks_opaque X1 S.opq) (l₀ := .ref C :: bm) (fun A Q E s k q => wpAny_bind ((PySem.W.looks_clsIn X1 hcl) A _ E s k (wpAny_pure q))) rfl X1 sup ?_ haC (by decide) ?_
  · exact PySem.W.Looks.andThen (fun A Q E s k q => wpAny_typeOf_ref (k _ _ ho1) q) (PySem.W.looks_subIn X1 S.ve)
  have k2' : ∀ b o, h1.get? b = some o → (h1.push (PySem.W.kxs_mw "ValueError.__init__" a)).get? b = some o := fun b o z => Heap.get?_push_of_some _ z
  have I2 := free_ne (o := PySem.W.kxs_mw "ValueError.__init__" a) (t' := t + 1) I1 (Nat.le_refl _) k2' (Heap.get?_push_size _ rfl) (fun v z => by cases z)
  refine PySem.W.kxs_callWith (i := "ValueError.__init__") (x := a) (by rw [hst]; rfl) ?_
  rw [hst]
  refine PySem.Calls.evalArgs_plain (x := eval e _) (rest := []) ?_
  have hargs := (pa_cons he pa_nil (by rw [hst]; rfl)).run p3 [(h1.objs.size, PySem.W.kxs_mw "ValueError.__init__" a)] _ σ H (fun vs H1 => vs.length = 1 ∧ H1 a = some (exo a C none) ∧ ∀ s', Inv (sX CX P w K mg base N (sF st x qual cc cda) f A outer s0 H0 E0) [] σ H1 s' → Q .next s') I2 hte
  rw [hst] at hargs
  refine thn hargs fun us s2 ⟨vs2, H2, I3, r3, hl, ea2, q3⟩ => ?_
  have hu2 := (I3.pin _ (List.mem_append_right _ (List.mem_singleton_self _))).1
  obtain ⟨t2, ho2⟩ := exo_at I3.hok ea2
  refine ⟨hu2, ?_⟩
  obtain ⟨hh2, g2, d2, tk2, os2⟩ := s2
  refine sup_call (I3.kIn _ _ hC) ho2 hu2 (by rw [List.nil_append, ← r3.length, hl]; exact (by rw [sizeLine_eq]; omega)) fun h' t3 k3' e3 => ?_
  have J := I3.write (t' := tk2) (x := a) (e := a) (o := exo a C none) (by rw [ea2]; exact True.intro) (.inl rfl) k3' ⟨_, e3⟩ (exo_ok e3)
  have eu : upd H2 a (exo a C none) = H2 := by
    funext b
    by_cases hb : b = a
    · rw [hb, upd_same, ea2]
    · rw [upd_ne hb]
  rw [eu] at J
  exact q3 _ (J.pins_of fun p hp => by cases hp)
/-- such an __init__ by what stands behind its first statement -/
theorem init_ok {x qual : Str} {st : Stmt} {fd : FuncData} {C : Addr} {ps : List Str} {ar : Arg} {k : Nat} {sp : Sp} {e : Expr} {p0 p1 p2 p3 p4 : Pos} {rest : List Stmt}
    (S : SupC K C) (Fs : FunS P K x qual st f fd C) (SN : NScope N ps ["__class__"] (C8.fnScope st)) (hbody : C8.fnBody st = .Expr (.Call (.Attribute (.Call (.Name "super" p0) [] [] p1) "__init__" p2) [e] [] p3) p4 :: rest)
    (hp : ((C8.fnArgs st).posonlyargs ++ (C8.fnArgs st).args).head? = some ar) (hN : N[0]? = some ar.arg) (hks : (C8.fnScope st).names.lookup ("super" : Str) = some NameKind.globalImplicit) (hka : (C8.fnScope st).names.lookup ar.arg = some NameKind.local)
    (htop : (P.main.scope.names.lookup ("super" : Str)).isSome = false) (hmg : mg "super" = none)
    (len : ∀ vs H Q E, sp vs H Q E → vs.length = ps.length)
    (hev : ∀ cc cda L : Addr, SupEv (envF (sF st x qual cc cda) f L) e p0 p1 p2 p3)
    (hst : ∀ env : PySem.Env, starEach [e] env = [(false, eval e env)]) (hsw : ∀ env : PySem.Env, swapsWith (.Call (.Attribute (.Call (.Name "super" p0) [] [] p1) "__init__" p2) [e] [] p3) none p4.line env = pure false)
    (hb : ∀ (cc cda : Addr) (A : Around) (outer : List PySem.Env) (s : Shared) (H : Hp) (vs : List V) (Q : VK) (E : XK), sp vs H Q E → ∃ (a : Addr) (te : TE) (t : TS), PE (sX CX P w K mg base N (sF st x qual cc cda) f A outer s H E) e te ∧ PSs (sX CX P w K mg base N (sF st x qual cc cda) f A outer s H E) rest t ∧
      (startF N vs [some (.ref C)])[0]? = some (some (.ref a)) ∧ H a = some (exo a C none) ∧ ∀ Qk : Hp → Prop, (∀ H1, t { nx := fun _ H' => Q .non H', rt := Q } (startF N vs [some (.ref C)]) H1 → Qk H1) → te (startF N vs [some (.ref C)]) H fun v H1 => [v].length = 1 ∧ H1 a = some (exo a C none) ∧ Qk H1) :
    FnOk P w K mg base CX (k + 1) f fd ps sp := by
  refine ⟨len, fun A outer s H args us vs Q E hr e0 hbi r hsp => ?_⟩
  have hl := len _ _ _ _ hsp
  obtain ⟨oc, od, doc, pm, ct, osl, cc, cda, cl, ccl, cld, cdd, csl, ccs, vz, file, tf, hfd, lk, hcd, lcc, lcd, hvs, hfile⟩ := Fs.ex
  have KX : K.In s.heap := e0.mod.kin.keeps fun b o e => (e0.bs b o e).1
  have lim : s.heap.NoLimit := e0.mod.nolimit.keeps fun b o e => (e0.bs b o e).1
  have Cs : CellsAt [("__class__", cc)] ["__class__"] [some (.ref C)] s.heap H := by
    have hcc := (e0.bs cc _ (e0.mod.kin _ _ lcc))
    refine ⟨rfl, fun y c e => ?_, fun x y c e1 e2 => ?_, fun i y e => ?_⟩
    · obtain rfl : c = cc := by
        simp only [List.lookup] at e
        split at e
        · exact (Option.some.inj e).symm
        · cases e
      exact ⟨hcc.2, _, ⟨_, hcc.1, rfl⟩⟩
    · simp only [List.lookup] at e1 e2
      split at e1 <;> split at e2 <;> simp_all
    · cases i with
      | zero =>
        obtain rfl : y = "__class__" := (Option.some.inj e).symm
        refine ⟨cc, rfl, fun v hv => ?_⟩
        obtain rfl : v = V.ref C := (Option.some.inj (Option.some.inj hv)).symm
        exact ⟨.ref C, rfl, ⟨_, hcc.1, rfl⟩⟩
      | succ i => simp at e
  subst hfd
  refine codeAny_call_function hr.depth (KX _ _ lk) rfl SN.co SN.gen rfl (PySem.W.codeRec_of KX hcd) (hbi _ _ _ _ ?_)
  refine wpAny_newFunctionEnv SN.nocell (fun ⟨n, _⟩ hy => SN.par n (List.of_mem_zip hy).1) (fun h₁ hns hsb => ⟨lim.fresh _ hsb, ?_⟩) SN.kind
  show codeAny _ _ (.func (C8.fnBody st) (envF (sF st x qual cc cda) f s.heap.objs.size)) _ _
  refine PySem.ks_codeAny_funcAt ?_
  have kp : ∀ b o, s.heap.get? b = some o → h₁.get? b = some o := fun b o e => hsb.extBut b o (Nat.ne_of_lt (Heap.lt_size e)) (Heap.get?_push_of_some _ e)
  have I : Inv (sX CX P w K mg base N (sF st x qual cc cda) f A outer s H E) [] (startF N vs [some (.ref C)]) H { s with heap := h₁, toks := s.toks + (ps.zip us).length } := inv_startN SN hr.hd e0 hl r Cs hns kp
  obtain ⟨a, te, t, he, ht, h0, ea, hte⟩ := hb cc cda A outer s H vs Q E hsp
  obtain ⟨pl, hev'⟩ := hev cc cda s.heap.objs.size
  rw [hbody]
  refine PySem.ks_wpAt_execs_cons ?_
  refine sup_stmt rfl S rfl lk lcc lcd hvs hfile hp hN SN.kind hks (SN.frk _ (List.mem_singleton_self _)) hka htop hmg I h0 ea he (hte _ fun H1 hq s' J => ?_) hev' (hst _) (hsw _)
  refine wpAt_of_wpAny (wpAny_mono (ht.run [] s' _ H1 _ J hq) (fun fl s2 hs => ?_) fun e s2 hs => hs)
  have fin : ∀ {σ' : L2.St} {H' : Hp} {v : V} {u : Value}, Inv (sX CX P w K mg base N (sF st x qual cc cda) f A outer s H E) [] σ' H' s2 → L2.RelV v u → Q v H' → CE outer P w H s Q u s2 :=
    fun {σ' H' v u} J rv q => ⟨v, H', J.os, J.bare, J.base, J.hok, rv, q⟩
  cases fl with
  | ret u =>
    obtain ⟨v, σ', H', J, rv, q⟩ := hs
    exact fin J rv q
  | next =>
    obtain ⟨σ', H', J, q⟩ := hs
    exact fin (v := V.non) (u := Value.none) J rfl q
  | brk =>
    obtain ⟨_, _, _, q⟩ := hs
    exact False.elim q
  | cont =>
    obtain ⟨_, _, _, q⟩ := hs
    exact False.elim q
end
end Tr
end

section
set_option Elab.async false
set_option linter.all false
set_option autoImplicit false
set_option maxRecDepth 100000
/-! Own exceptions raised. -/
namespace Tr
open PySem PySem.Spec PyProof.Rows L2 NdefX
def spI0 (C : Addr) : Sp := fun vs H Q _ => ∃ a, vs = [.ref a] ∧ H a = some (exo a C none) ∧ Q .non H
def spI1 (C : Addr) (f : Str) (ok : V → Prop) : Sp := fun vs H Q _ => ∃ a v, vs = [.ref a, v] ∧ H a = some (exo a C none) ∧ ok v ∧ ∀ d, H d = none → d ≠ a → Q .non (upd (upd H d (exd d [(f, v)])) a (exo a C (some d)))
section
variable {X : Cx}
/-- an exception without a dict is let go -/
theorem mk_end00 {pins : List (Addr × Obj)} {σ : L2.St} {H1 H2 : Hp} {Q : XK} {hp hp2 h2 : Heap} {g1 g2 : Array GenState} {d1 d2 : Drawn} {t1 t2 : Nat} {os1 os2 : OsState} {a C : Addr} (T : Raises X (.ref C)) (I1 : Inv X pins σ H1 ⟨hp, g1, d1, t1, os1⟩)
    (ha : hp.objs.size ≤ a) (k : ∀ b o, hp.get? b = some o → hp2.get? b = some o) (un : Un (frs X.stack) [] (upd H1 a (exo a C none)) H2 hp2 h2) (e2 : H2 = upd H1 a (exo a C none)) (hok : HOk X.prog X.w H2 h2) (ho : os2 = os1) (hb : AllBare g2)
    (q : Q (.ref C) none H1) : MkP X pins σ Q (.ref a) ⟨h2, g2, d2, t2, os2⟩ := by
  subst e2
  obtain ⟨t0, hoe⟩ := exo_at hok upd_same
  have hn : H1 a = none := I1.hok.fresh ha
  obtain ⟨G, g1', g2'⟩ := restrict h2 fun b => decide (b ≠ a)
  have gk : ∀ b, b ≠ a → G.get? b = h2.get? b := fun b hb => g1' b (decide_eq_true hb)
  have ge : G.get? a = none := g2' a (by simp)
  have nha : ∀ {b : Addr} {o : Obj}, hp.get? b = some o → b ≠ a := fun {b o} z => Nat.ne_of_lt (Nat.lt_of_lt_of_le (Heap.lt_size z) ha)
  have up : ∀ {b : Addr}, b ≠ a → H1 b = none → upd H1 a (exo a C none) b = none := fun {b} hb n => by rw [upd_ne hb]; exact n
  have U : Un (frs X.stack) [] H1 H1 hp G := {
    keep := fun b o z n hf hx => by
      rw [gk b (nha z)]
      exact un.keep b o (k b o z) (up (nha z) n) hf hx
    slot := fun b o z n hf hx => by
      rw [gk b (nha z)]
      exact un.slot b o (k b o z) (up (nha z) n) hf hx
    free := fun b o z n hx => n
    there := fun b o z hx => by
      rw [gk b (nha z)]
      exact un.there b o (k b o z) hx
    tups := fun b xs z => z
    frzs := fun b o v z => z
    tbls := fun b ps z => ⟨#[], by rw [z]; simp⟩ }
  have hok3 : HOk X.prog X.w H1 G := fun b o z => by
    have hba : b ≠ a := fun e => by
      rw [e, hn] at z
      cases z
    have noa : ∀ {c : Addr}, upd H1 a (exo a C none) c = some (.own b) → c ≠ a := fun {c} hc => at_ne upd_same hc exo_own
    exact (hok b o (by rw [upd_ne hba]; exact z)).stay (fun c v hc y => by
        have hca : c ≠ a := by
          rcases hc with hc | hc
          · rw [hc]
            exact hba
          · exact noa hc
        rw [gk c hca]
        exact y)
      (fun c hc => by rw [upd_ne (noa hc)] at hc; exact hc) (fun c xs hc => by rw [upd_ne (at_ne upd_same hc exo_tup)] at hc; exact hc)
  have J : Inv X pins σ H1 ⟨G, g2, d2, t2, os2⟩ := I1.call' (ch := []) ho U hok3 hb (fun b z => absurd z (by simp))
  refine ⟨a, _, _, ⟨G, g2, d2, t2, os2⟩, _, .ref C, none, rfl, J, fun b o z => ?_, ge, hoe, ⟨rfl, rfl⟩, rfl, rfl, hn, rfl, hb, T, q⟩
  by_cases hba : b = a
  · rw [hba, ge] at z
    cases z
  · exact (gk b hba).symm.trans z
end
section
variable {X : Cx} {CX : CXT} {x : Str} {C fI : Addr} {k : Nat} {fd : FuncData} {ps : List Str} {p pos : Pos} {e : Expr} {es : List Expr} {ta : TA}
/-- C(): no field -/
theorem pmk_s0 (T : OexC X.K C) (iC : PySem.W.findIn X.K (.ref C) "__init__" = some (some (.ref fI))) (tI : PySem.W.typeIn X.K (.ref fI) = some (.type "function"))
    (F1 : FnOk X.prog X.w X.K X.mg X.base CX k fI fd ps (spI0 C)) (hr : Room (k + 1) X.A) (hb : Binds X.K fd ps []) (hx : Passes CX X (fun _ _ _ => False)) (hg : Gl X x) (hm : X.mg x = some (.ref C))
    (hdb : (x == ("__debug__" : Str)) = false := by decide) : PMk X (.Call (.Name x p) [] [] pos) (fun _ H Q => Q (.ref C) none H) := by
  intro pins s σ H Q I h
  obtain ⟨nm, q, N, bs, bm, sn, sub, ab, col, dd, k0, k1, k2, k3, k5, hC, hbm⟩ := T.cls
  refine wpAny_Call_Name_kw (ld_glob I hg hm ?_ hdb)
  refine PySem.W.callWith_K0 I.kIn T.kC ?_
  show wpAny _ _ (call (.ref C) []) _ _ _
  obtain ⟨hp, g, dr, tk, os⟩ := s
  have hsz : hp.objs.size ≤ hp.objs.size + 1 := Nat.le_succ _
  have hn : H (hp.objs.size + 1) = none := I.hok.fresh hsz
  have hq : spI0 C [.ref (hp.objs.size + 1)] (upd H (hp.objs.size + 1) (exo (hp.objs.size + 1) C none)) (fun v H2 => v = .non ∧ H2 = upd H (hp.objs.size + 1) (exo (hp.objs.size + 1) C none)) (fun _ _ _ => False) := ⟨_, rfl, upd_same, rfl, rfl⟩
  have kk : ∀ b o, hp.get? b = some o → ((hp.push (PySem.W.kdv_tup [])).push (PySem.HandSPX.excO C hp.objs.size)).get? b = some o := fun b o e => Heap.get?_push_of_some _ (Heap.get?_push_of_some _ e)
  have hget : ((hp.push (PySem.W.kdv_tup [])).push (PySem.HandSPX.excO C hp.objs.size)).get? (hp.objs.size + 1) = some (PySem.HandSPX.excO C hp.objs.size) := by heap_get
  have I2 : Inv X pins σ (upd H (hp.objs.size + 1) (exo (hp.objs.size + 1) C none)) ⟨(hp.push (PySem.W.kdv_tup [])).push (PySem.HandSPX.excO C hp.objs.size), g, dr, tk, os⟩ :=
    I.laid (t' := tk) (a := hp.objs.size + 1) (o := exo (hp.objs.size + 1) C none) (h' := (hp.push (PySem.W.kdv_tup [])).push (PySem.HandSPX.excO C hp.objs.size)) kk hsz (exo_ok hget)
  have r2 : Vals [V.ref (hp.objs.size + 1)] [Value.ref (hp.objs.size + 1)] := .cons rfl .nil
  have hl : ([Value.ref (hp.objs.size + 1)] ++ []).length = ps.length := by
    have e := r2.length
    rw [F1.len _ _ _ _ hq] at e
    exact e.symm
  refine wpAny_call (PySem.HandSPX.call_own PySem.F.excBase_ValueError (fun Y => PySem.HandSPX.refsVE_contains Y bm hbm) (I.kIn _ _ hC) (PySem.W.looks_findIn I.kIn iC) (fun self => PySem.W.bind_fn I.kIn self tI) (Nat.zero_le _)
    (codeAny_mono (F1.run _ X.stack _ _ ⟨[Value.ref (hp.objs.size + 1)], []⟩ [Value.ref (hp.objs.size + 1)] _ _ (fun _ _ _ => False) (hr.make C [] []) (I2.env0.make C [] []) (hb _ [Value.ref (hp.objs.size + 1)] I2.kIn hl) r2 hq) fun r s' hq' => ?_))
  cases r with
  | error er => exact hx pins σ _ _ er s' I2 hq'
  | ok fl =>
    cases fl with
    | ret u =>
      obtain ⟨v, H2, os2, bare2, un2, hok2, rv, ev, e2⟩ := hq'
      subst ev
      obtain ⟨h2, g2, d2, t2, os'⟩ := s'
      exact ⟨rv, mk_end00 (raises_own T.exC T.tyC) I hsz kk un2 e2 hok2 os2 bare2 h⟩
    | next => exact False.elim hq'
    | brk => exact False.elim hq'
    | cont => exact False.elim hq'
end
section
variable {X : Cx} {c : Cu} {CX : CXT} {x : Str} {cn : Nat} {fI : Addr} {k : Nat} {fd : FuncData} {ps : List Str} {p pos rpos : Pos} {e : Expr} {fe : M T}
def sRaise0 (cn : Nat) : FS := fun ρ => .exc ⟨cn, []⟩ ρ
theorem ss_raise0 (T : OexC X.K (c.ct cn)) (iC : PySem.W.findIn X.K (.ref (c.ct cn)) "__init__" = some (some (.ref fI))) (tI : PySem.W.typeIn X.K (.ref fI) = some (.type "function"))
    (F1 : FnOk X.prog X.w X.K X.mg X.base CX k fI fd ps (spI0 (c.ct cn))) (hr : Room (k + 1) X.A) (hb : Binds X.K fd ps []) (hx : Passes CX X (fun _ _ _ => False)) (hm : X.mg x = some (.ref (c.ct cn))) (hc : X.calm = true) (tk : Takes X c.X) (hg : Gl X x := by rfl)
    (hdb : (x == ("__debug__" : Str)) = false := by decide) : SS X c (.Raise (some (.Call (.Name x p) [] [] pos)) none rpos) (sRaise0 cn) := ps_imp (ps_raise hc tk (pmk_s0 T iC tI F1 hr hb hx hg hm hdb)) fun D σ H h => by
  obtain ⟨ρ, R, I, P⟩ := h
  exact P σ H _ _ I .refl ⟨rfl, .inl ⟨rfl, rfl⟩⟩
def sRaise1 (cn : Nat) (ok : T → Bool) (fe : M T) : FS := sBind fe fun t ρ => if (atomV t).isSome && ok t then .exc ⟨cn, [t]⟩ ρ else .bad
theorem ss_raise1 {f : Str} {okv : V → Prop} {ok : T → Bool} (hok : ∀ t v, ok t = true → atomV t = some v → okv v) (hef : c.ef cn = [f]) (T : OexC X.K (c.ct cn)) (iC : PySem.W.findIn X.K (.ref (c.ct cn)) "__init__" = some (some (.ref fI))) (tI : PySem.W.typeIn X.K (.ref fI) = some (.type "function"))
    (F1 : FnOk X.prog X.w X.K X.mg X.base CX k fI fd ps (spI1 (c.ct cn) f okv)) (hr : Room (k + 1) X.A) (hb : Binds X.K fd ps []) (hx : Passes CX X (fun _ _ _ => False)) (hm : X.mg x = some (.ref (c.ct cn))) (hc : X.calm = true) (tk : Takes X c.X) (he : SE X c e fe) (hg : Gl X x := by rfl)
    (hdb : (x == ("__debug__" : Str)) = false := by decide) (hs : starEach [e] X.env = (false, eval e X.env) :: starEach [] X.env := by rfl) : SS X c (.Raise (some (.Call (.Name x p) [e] [] pos)) none rpos) (sRaise1 cn ok fe) :=
  ps_imp (ps_raise hc tk (pmk_oex T iC tI F1 hr hb .nil hx hg hm (pa_cons he pa_nil hs) hdb hs rfl)) fun D σ H h => by
    obtain ⟨ρ, R, I, P⟩ := h
    refine ss_then I P fun r H1 ρ1 I1 q => ?_
    refine ⟨by show 1 ≤ 1000; omega, fun a na => ?_⟩
    split at q
    · rename_i hc2
      simp only [Bool.and_eq_true] at hc2
      obtain ⟨v, hv⟩ := Option.isSome_iff_exists.mp hc2.1
      have ev := atom_er hv
      refine ⟨a, val r, rfl, upd_same, by rw [ev]; exact hok _ _ hc2.2 hv, fun d nd nda => ?_⟩
      rw [upd_ne nda] at nd
      refine ⟨rfl, d, _, upd_same, by rw [upd_ne nda, upd_same], nd, ?_⟩
      have eH : upd (del (upd (upd (upd H1 a (exo a (c.ct cn) none)) d (exd d [(f, val r)])) a (exo a (c.ct cn) (some d))) a) d (.xd [(f, val r)]) = upd H1 d (.xd [(f, val r)]) := by
        funext b
        by_cases hbd : b = d
        · rw [hbd, upd_same, upd_same]
        · rw [upd_ne hbd, upd_ne hbd]
          by_cases hba : b = a
          · rw [hba, del_same, na]
          · rw [del_ne hba, upd_ne hba, upd_ne hbd, upd_ne hba]
      rw [eH]
      refine q σ _ _ _ (I1.drop.map fun S w' => w'.laid nd) .refl ⟨rfl, .inr ⟨by simp, d, [v], rfl, ?_, ?_, ?_⟩⟩
      · show [er r].mapM atomV = some [v]
        simp [hv]
      · show (c.ef cn).length = 1
        rw [hef]; rfl
      · show upd H1 d _ d = some (.xd ((c.ef cn).zip [v]))
        rw [upd_same, hef, ← ev]
        rfl
    · exact q.elim
end
end Tr
end

section
set_option Elab.async false
set_option linter.all false
set_option autoImplicit false
set_option maxRecDepth 100000
/-! try .. except. -/
namespace Tr
open PySem PySem.Spec PyProof.Rows L2
/-- the clause's answer for the class numbers that may come -/
abbrev EM := Nat → Option Bool
def EmOk (K : PySem.W.Frag) (ct : Nat → Addr) (cn : Nat) (em : EM) : Prop := ∀ k b, em k = some b → PySem.W.exmOne K (.ref (ct k)) (.ref (ct cn)) = some b
abbrev cW (c : Cu) (W : WX) : Cu := ⟨c.ct, c.ef, W, c.pr⟩
abbrev c0 (c : Cu) : Cu := ⟨c.ct, c.ef, fun _ _ _ _ => False, c.pr⟩
def noXs (f : FS) : FS := fun ρ => match f ρ with
  | .exc _ _ => .bad
  | o => o
def sTryOnly (em : EM) (body suite : FS) : FS := fun ρ => match body ρ with
  | .exc e ρ' => match em e.c with
    | some true => noXs suite ρ'
    | some false => .exc e ρ'
    | none => .bad
  | o => o
section
variable {X : Cx} {c : Cu} {σ σ' : L2.St} {R : List A} {D : Ends} {o : SO}
/-- the wish of an exception may be another one -/
theorem PostS.other {c' : Cu} (h : PostS X c σ R D o) (e1 : c'.ct = c.ct) (e2 : c'.ef = c.ef) (e3 : c'.pr = c.pr) (hx : ∀ e ρ, o = .exc e ρ → PostS X c' σ R D (.exc e ρ)) : PostS X c' σ R D o := by
  obtain ⟨ct, ef, W, pr⟩ := c
  obtain ⟨ct', ef', W', pr'⟩ := c'
  dsimp only at e1 e2 e3
  subst e1 e2 e3
  cases o with
  | nx ρ => exact fun σ2 H I k => h σ2 H I ⟨k.len, k.at_⟩
  | ret t ρ => exact fun r σ2 H e I k => h r σ2 H e I ⟨k.len, k.at_⟩
  | brk ρ => exact fun σ2 H I k => h σ2 H I ⟨k.len, k.at_⟩
  | ct ρ => exact fun σ2 H I k => h σ2 H I ⟨k.len, k.at_⟩
  | exc e ρ => exact hx e ρ rfl
  | bad => exact h
theorem PostS.toW {W : WX} (h : PostS X c σ R D o) (hn : ∀ e ρ, o ≠ .exc e ρ) : PostS X (cW c W) σ R D o := h.other rfl rfl rfl fun e ρ z => absurd z (hn e ρ)
end
section
variable {X : Cx} {c : Cu} {x : Str} {cn : Nat} {em : EM} {fb fs : FS} {body suite : List Stmt} {b₀ : Stmt} {np pos pos' : Pos}
theorem ss_tryOnly (hem : EmOk X.K c.ct cn em) (hs : X.stack = X.env :: X.outer) (hf : X.env.frame = some X.env.locals) (hc : Names X x (.ref (c.ct cn))) (tk : Takes X c.X)
    (hb : ∀ (W : WX) (pn : List (Addr × Obj)) (xe : Value → Shared → Prop), Takes (X.tr pn xe) W → PassesOwn (model X.prog X.w) X.A X.env xe → SSs (X.tr pn xe) (cW c W) body fb)
    (hsu : ∀ (a : Addr) (oe : Obj) (cls : Value) (d : Option Addr) (pn : List (Addr × Obj)), Zc cls d oe → (∃ vs, oe.data = .fields vs) → SSs (X.suite a ((a, oe) :: pn)) (c0 c) (b₀ :: suite) fs) :
    SS X c (.Try body [.ExceptHandler (some (.Name x np)) none (b₀ :: suite) pos'] [] [] pos) (sTryOnly em fb fs) :=
  ps_imp (ps_try_only (tb := fun W => SSr X (cW c W) fb) (ts := fun _ _ _ => SSr X (c0 c) fs) hs hf hc tk (fun W pn xe t p => hb W pn xe t p) (fun a oe cls d pn z f => hsu a oe cls d pn z f)) fun D σ H h => by
    obtain ⟨ρ, R, I, P⟩ := h
    refine ⟨ρ, R, I, ?_⟩
    unfold sTryOnly at P
    cases hbo : fb ρ with
    | exc e ρ' =>
      rw [hbo] at P
      dsimp only at P
      intro σ' H' cls d I' k E
      obtain ⟨rfl, E2⟩ := E
      cases he : em e.c with
      | none => rw [he] at P; exact P.elim
      | some b =>
        refine ⟨b, hem _ _ he, fun hbt a na => ?_, fun hbf => ?_⟩
        · subst hbt
          rw [he] at P
          dsimp only at P
          refine ⟨ρ', R, I', ?_⟩
          unfold noXs at P
          have P2 := P.shift (σ' := σ') ⟨k.len, k.at_⟩
          cases hfs : fs ρ' with
          | exc e2 ρ2 => rw [hfs] at P2; exact P2.elim
          | _ => rw [hfs] at P2; exact P2.toW (W := fun _ _ _ _ => False) fun _ _ z => nomatch z
        · subst hbf
          rw [he] at P
          exact P σ' H' _ d I' ⟨k.len, k.at_⟩ ⟨rfl, E2⟩
    | _ => rw [hbo] at P; exact P.toW fun _ _ z => nomatch z
/-- the exception that a suite holds -/
def exT (a : Addr) (d : Option Addr) (ns : List Str) (e : Ex) : T := if e.fs = [] then .cst (.ref a) else .nd (.exc a (d.getD 0) ns) e.fs
theorem erL_atoms : ∀ {ts : List T} {vs : List V}, ts.mapM atomV = some vs → ∃ xs : List A, erL xs = ts ∧ xs.map val = vs ∧ ownL xs = [] ∧ frzL xs = [] ∧ ∀ B H, OkL B H xs
  | [], vs, h => by
    simp at h
    exact ⟨[], rfl, by rw [h]; rfl, rfl, rfl, fun _ _ => trivial⟩
  | t :: ts, vs, h => by
    simp only [List.mapM_cons, bind, Option.bind_eq_some_iff, pure] at h
    obtain ⟨v, hv, vs', h2, e⟩ := h
    injection e with e
    subst e
    obtain ⟨xs, e1, e2, e3, e4, e5⟩ := erL_atoms h2
    cases t with
    | non => exact ⟨.non :: xs, by rw [erL, e1]; rfl, by rw [List.map_cons, e2]; exact congrArg (· :: _) (Option.some.inj hv), e3, e4, fun B H => ⟨trivial, e5 B H⟩⟩
    | bl b => exact ⟨.bl b :: xs, by rw [erL, e1]; rfl, by rw [List.map_cons, e2]; exact congrArg (· :: _) (Option.some.inj hv), e3, e4, fun B H => ⟨trivial, e5 B H⟩⟩
    | int b => exact ⟨.int b :: xs, by rw [erL, e1]; rfl, by rw [List.map_cons, e2]; exact congrArg (· :: _) (Option.some.inj hv), e3, e4, fun B H => ⟨trivial, e5 B H⟩⟩
    | str b => exact ⟨.str b :: xs, by rw [erL, e1]; rfl, by rw [List.map_cons, e2]; exact congrArg (· :: _) (Option.some.inj hv), e3, e4, fun B H => ⟨trivial, e5 B H⟩⟩
    | cst v => cases hv
    | hole => cases hv
    | nd k xs => cases hv
theorem own_not_xd {B : Tab} {H : Hp} : ∀ {x : A}, Ok B H x → ∀ b ∈ own x, ∀ fs, H b ≠ some (.xd fs) := by
  intro x
  refine A.rec (motive_1 := fun x => Ok B H x → ∀ b ∈ own x, ∀ fs, H b ≠ some (.xd fs)) (motive_2 := fun xs => OkL B H xs → ∀ b ∈ ownL xs, ∀ fs, H b ≠ some (.xd fs)) ?_ ?_ ?_ ?_ ?_ ?_ ?_ ?_ ?_ x
  · intro _ b hb; simp [own] at hb
  · intro _ _ b hb; simp [own] at hb
  · intro _ _ b hb; simp [own] at hb
  · intro _ _ b hb; simp [own] at hb
  · intro _ _ b hb; simp [own] at hb
  · intro _ _ b hb; simp [own] at hb
  · intro k w a dx xs ih h b hb fs
    rw [own, List.mem_append] at hb
    rcases hb with hb | hb
    · have hn := h.1
      cases k with
      | tup => simp [ownN, NK.m] at hb
      | scr => simp [ownN, NK.m] at hb
      | exc c dd ns => simp [ownN, NK.m] at hb
      | err c ns => simp [ownN, NK.m] at hb
      | lst m =>
        obtain ⟨rfl, h1⟩ := hn
        cases m <;> simp [ownN, NK.m] at hb
        subst hb
        rw [h1]; intro z; cases z
      | dct m ks =>
        obtain ⟨rfl, _, _, h1⟩ := hn
        cases m <;> simp [ownN, NK.m] at hb
        subst hb
        rw [h1]; intro z; cases z
      | obj m c ns =>
        obtain ⟨rfl, _, _, _, h1⟩ := hn
        cases m <;> simp [ownN, NK.m] at hb
        subst hb
        rw [h1]; intro z; cases z
    · exact ih h.2.1 b hb fs
  · intro _ b hb; simp [ownL] at hb
  · intro x xs i1 i2 h b hb fs
    rw [ownL, List.mem_append] at hb
    rcases hb with hb | hb
    · exact i1 h.1 b hb fs
    · exact i2 h.2 b hb fs
theorem SI.unset {X : Cx} {c : Cu} {σ : L2.St} {H : Hp} {ρ : Env} {R : List A} (I : SI X c σ H ρ R) (i : Nat) : SI X c σ H (ρ.set i none) R := by
  obtain ⟨ρA, e, m, w⟩ := I
  subst e
  exact ⟨ρA.set i none, by rw [erE_set]; rfl, m.unset, w.unset⟩
end
/-! ### isinstance in a suite -/
def excAt : T → Option Addr
  | .cst (.ref a) => some a
  | .nd (.exc a _ _) _ => some a
  | _ => none
theorem excAt_ok {B : Tab} {H : Hp} {r : A} {a : Addr} (ok : Ok B H r) (h : excAt (er r) = some a) : val r = .ref a := by
  cases r with
  | cst v =>
    rw [er] at h
    cases v <;> simp [excAt] at h
    rw [h]; rfl
  | nd k w b dx xs =>
    rw [er] at h
    cases k <;> simp [excAt] at h
    obtain ⟨⟨_, h2, _⟩, _⟩ := ok
    rw [← h2, h]; rfl
  | _ => simp [er, excAt] at h
def fIsE (i : Nat) (a : Addr) (b : Bool) : M T := fun ρ => if (ρ[i]?.bind id).bind excAt = some a then .ok (.bl b) ρ else .bad
section
variable {X : Cx} {c : Cu} {a D : Addr} {oe : Obj} {pn : List (Addr × Obj)} {n y : Str} {p p1 p2 pos : Pos} {b : Bool}
theorem isE_arg {v : V} {cv : Value} (i : Nat) (C : ExcC X.K D) (hz : Zc (.ref D) none oe) (hf : ∃ vs, oe.data = .fields vs) (hb : PySem.W.kitOne X.K (.ref D) cv = some b) (hcv : ∀ u, RelV v u → u = cv) (hi : X.mg "isinstance" = none) (hy : PE (X.suite a ((a, oe) :: pn)) (.Name y p2) (tC v))
    (hN : X.N[i]? = some n) (hv : Vis X.env.scope n) (hd : (n == ("__debug__" : Str)) = false) (hcd : (n == ("__classdict__" : Str)) = false) (hg : Gl X "isinstance")
    (he : starEach [.Name n p1, .Name y p2] X.env = (false, eval (.Name n p1) X.env) :: starEach [.Name y p2] X.env) (he2 : starEach [.Name y p2] X.env = (false, eval (.Name y p2) X.env) :: starEach [] X.env) (hpl : (backTo pos (starEach [.Name y p2] X.env)).any (·.1) = false) :
    SE (X.suite a ((a, oe) :: pn)) c (.Call (.Name "isinstance" p) [.Name n p1, .Name y p2] [] pos) (fIsE i a b) :=
  pe_imp (pe_callB (X := X.suite a ((a, oe) :: pn)) (call_isE C hz hf) hg hi (by first | rfl | boot_by_name | kernel_rfl) (pa_cons (X := X.suite a ((a, oe) :: pn)) (pe_var (X := X.suite a ((a, oe) :: pn)) hN hv hd hcd) (pa_cons hy pa_nil he2) he) (by decide) (by decide) he hpl) fun σ H Q h => by
    obtain ⟨ρ, R, I, P⟩ := h
    unfold fIsE at P
    split at P
    · rename_i hc
      obtain ⟨ρA, e, m, w⟩ := id I
      cases hx : ρ[i]? with
      | none => rw [hx] at hc; simp at hc
      | some t =>
        cases t with
        | none => rw [hx] at hc; simp at hc
        | some t =>
          rw [hx] at hc
          have hc : excAt t = some a := hc
          rw [← e] at hx
          obtain ⟨r, hr, et⟩ := erE_some hx
          have okr : Ok (tab X c) H r := by
            have := (slots_take hr)
            exact okL_iff.mp w.ok r (List.mem_append_left _ (this.symm.subset (List.mem_cons_self)))
          refine ⟨val r, m.at_ i r hr, ?_⟩
          have ev := excAt_ok okr (by rw [et]; exact hc)
          refine ⟨v, cv, b, by rw [ev], hcv, hb, ?_⟩
          exact P (.bl b) H rfl (I.imp fun S w => w.bl)
    · exact P.elim
/-- isinstance(e, C), C a class of the text -/
theorem se_isC (i : Nat) {ca : Addr} (C : ExcC X.K D) (hz : Zc (.ref D) none oe) (hf : ∃ vs, oe.data = .fields vs) (hb : PySem.W.kitOne X.K (.ref D) (.ref ca) = some b) (hi : X.mg "isinstance" = none) (hm : X.mg y = some (.ref ca))
    (hN : X.N[i]? = some n := by rfl) (hv : Vis X.env.scope n := by first | exact Or.inl rfl | exact Or.inr (Or.inl rfl) | exact Or.inr (Or.inr rfl)) (hd : (n == ("__debug__" : Str)) = false := by decide) (hcd : (n == ("__classdict__" : Str)) = false := by decide) (hg : Gl X "isinstance" := by rfl) (hgy : Gl X y := by rfl) (hyd : (y == ("__debug__" : Str)) = false := by decide)
    (he : starEach [.Name n p1, .Name y p2] X.env = (false, eval (.Name n p1) X.env) :: starEach [.Name y p2] X.env := by rfl) (he2 : starEach [.Name y p2] X.env = (false, eval (.Name y p2) X.env) :: starEach [] X.env := by rfl) (hpl : (backTo pos (starEach [.Name y p2] X.env)).any (·.1) = false := by rfl) :
    SE (X.suite a ((a, oe) :: pn)) c (.Call (.Name "isinstance" p) [.Name n p1, .Name y p2] [] pos) (fIsE i a b) :=
  isE_arg (v := .ref ca) i C hz hf hb (fun u h => h) hi (pe_glob (X := X.suite a ((a, oe) :: pn)) (v := .ref ca) hgy hm rfl hyd) hN hv hd hcd hg he he2 hpl
/-- .. a built-in one -/
theorem se_isB (i : Nat) {Ty : String} (C : ExcC X.K D) (hz : Zc (.ref D) none oe) (hf : ∃ vs, oe.data = .fields vs) (hb : PySem.W.kitOne X.K (.ref D) (.type Ty) = some b) (hi : X.mg "isinstance" = none) (hm : X.mg y = none) (hbt : bootBuiltins y = some (.type Ty))
    (hN : X.N[i]? = some n := by rfl) (hv : Vis X.env.scope n := by first | exact Or.inl rfl | exact Or.inr (Or.inl rfl) | exact Or.inr (Or.inr rfl)) (hd : (n == ("__debug__" : Str)) = false := by decide) (hcd : (n == ("__classdict__" : Str)) = false := by decide) (hg : Gl X "isinstance" := by rfl) (hgy : Gl X y := by rfl) (hyd : (y == ("__debug__" : Str)) = false := by decide) (hyn : y ≠ "__name__" := by decide)
    (he : starEach [.Name n p1, .Name y p2] X.env = (false, eval (.Name n p1) X.env) :: starEach [.Name y p2] X.env := by rfl) (he2 : starEach [.Name y p2] X.env = (false, eval (.Name y p2) X.env) :: starEach [] X.env := by rfl) (hpl : (backTo pos (starEach [.Name y p2] X.env)).any (·.1) = false := by rfl) :
    SE (X.suite a ((a, oe) :: pn)) c (.Call (.Name "isinstance" p) [.Name n p1, .Name y p2] [] pos) (fIsE i a b) :=
  isE_arg (v := .ty Ty) i C hz hf hb (fun u h => h) hi (pe_bltn (X := X.suite a ((a, oe) :: pn)) (v := .ty Ty) hgy hm hbt rfl hyn hyd) hN hv hd hcd hg he he2 hpl
end
end Tr
end

section
set_option Elab.async false
set_option linter.all false
set_option autoImplicit false
set_option maxRecDepth 100000
/-! What loops walk: lists and tuples, enumerate, zip. -/
namespace Tr
open PySem PySem.Spec PyProof.Rows L2
/-! ### enumerate of a tuple -/
set_option maxHeartbeats 1000000 in
theorem meets_enum1 {v : Value} {o : Obj} {H : Heap → Prop} (B : Begins v o H) :
    Meets (Builtin.«enumerate.__new__» ⟨[.type "enumerate", v], []⟩) (fun _ R s => H s.heap ∧
      R (.ok (.ret (.ref (s.heap.push o).objs.size))) { s with heap := (s.heap.push o).push { cls := .type "enumerate", data := .fields #[.none, .bool false, .ref s.heap.objs.size, rawInt 0, .none, .none] } }) :=
  .of_wp fun prog w A R s h => by
    obtain ⟨hp, g, d, tk, os⟩ := s; obtain ⟨h1, h⟩ := h
    have hsub := sub_enumerate
    have q1 : ∀ {A' : Around} {E : Value → Shared → Prop} {Q : Value → Shared → Prop}, Q (.ref hp.objs.size) ⟨hp.push o, g, d, tk, os⟩ → wpAny (model prog w) A' (pyIter v) Q E ⟨hp, g, d, tk, os⟩ :=
      fun q => B.iter prog w _ _ ⟨hp, g, d, tk, os⟩ _ h1 q
    wp_walk using q1
    refine wpAny_stack_any fun st => wpAny_pure ?_
    split
    · rename_i c _ _ _ _ _
      cases (c == Value.type "enumerate")
      · wp_walk using q1
        exact ⟨_, rfl, h⟩
      · wp_walk using q1
        exact ⟨_, rfl, h⟩
    · wp_walk using q1
      exact ⟨_, rfl, h⟩
theorem call_enum1 {prog : Program} {w : World} {A : Around} {E : Value → Shared → Prop} {s : Shared} {v : Value} {o : Obj} {H : Heap → Prop} {Q : Value → Shared → Prop} (B : Begins v o H) (h1 : H s.heap)
    (h : ∀ h', IsEnum h' (s.heap.objs.size + 1) s.heap.objs.size 0 .none → h'.get? s.heap.objs.size = some o → h'.objs.size = s.heap.objs.size + 2 →
      (∀ b o, s.heap.get? b = some o → h'.get? b = some o) → Q (.ref (s.heap.objs.size + 1)) { s with heap := h' }) :
    wpAny (model prog w) A (call (.type "enumerate") [v]) Q E s := by
  refine callType_new PySem.F.called_enumerate (by decide) (PySem.F.typeCall_enumerate_1 _) (PySem.F.newCall_enumerate_1 _) (fun obj => PySem.F.args_object_init_2 obj _) PySem.F.entry_enumerate_new
    (meets_enum1 B) ⟨h1, ?_⟩
  have hz : (s.heap.push o).objs.size = s.heap.objs.size + 1 := Heap.size_push ..
  show _ ∧ _
  rw [hz]
  have he : IsEnum ((s.heap.push o).push { cls := .type "enumerate", data := .fields #[.none, .bool false, .ref s.heap.objs.size, rawInt 0, .none, .none] }) (s.heap.objs.size + 1) s.heap.objs.size 0 .none := by
    have := Heap.get?_push_size (s.heap.push o) (o := { cls := .type "enumerate", data := .fields #[.none, .bool false, .ref s.heap.objs.size, rawInt 0, .none, .none] }) rfl
    rw [hz] at this; exact this
  refine ⟨⟨_, he, rfl⟩, h _ he (Heap.get?_push_of_some _ (Heap.get?_push_size _ B.free)) (by rw [Heap.size_push, hz]) fun b o x => Heap.get?_push_of_some _ (Heap.get?_push_of_some _ x)⟩
def IteT (K : PySem.W.Frag) (a : Addr) : It :=
  ⟨fun i H => ∃ (xs : List V) (x : V), SqT K H a xs ∧ xs[i]? = some x, fun i H v H' => ∃ T x, v = .ref T ∧ H T = none ∧ H' = upd H T (.tup [.int (i : Nat), x]) ∧ ∀ xs, SqT K H a xs → xs[i]? = some x, fun i H => ∃ xs : List V, SqT K H a xs ∧ xs.length ≤ i⟩
theorem turn_enumT {P : Program} {w : World} {K : PySem.W.Frag} {elts : List Expr} {kk : Nat} {tpos : Pos} (a e it : Addr) :
    Turn P w K (.Tuple elts kk tpos) (IteT K a) [e, it] e (fun i h => (∃ old, IsEnum h e it ((i : Nat) : Int) old) ∧ h.IsTupleIter it a i ∧ e ≠ it) where
  mem := by simp
  obj := fun i h st b hb => by
    obtain ⟨⟨old, he⟩, ⟨o, ho, hc, hd⟩, _⟩ := st
    have e' : b = e ∨ b = it := by simpa using hb
    rcases e' with z | z
    · rw [z]; exact ⟨_, he, fun v q => nomatch q⟩
    · rw [z]; exact ⟨o, ho, fun v q => by rw [hd] at q; cases q⟩
  keep := fun i h h' st k => let ⟨⟨old, he⟩, hi, hne⟩ := st; ⟨⟨old, k e (by simp) _ he⟩, hi.at fun o q => k it (by simp) o q, hne⟩
  item := by
    intro X hP hw hK hc i pins s σ H E I hf st hg
    subst hP hw hK
    obtain ⟨⟨old, he⟩, hit, hne⟩ := st
    obtain ⟨xs, x, hq, hx⟩ := hg
    obtain ⟨its, rv, p, hz⟩ := I.tuple hq
    obtain ⟨u, hu, ru⟩ := rv.get hx
    have hel : e < s.heap.objs.size := Heap.lt_size he
    have hil : it < s.heap.objs.size := by obtain ⟨_, q, _⟩ := hit; exact Heap.lt_size q
    have htup : s.heap.IsTuple a its.toArray := p
    have hane : a ≠ it := fun z => by
      obtain ⟨o1, q1, q2, _⟩ := hit
      obtain ⟨o2, q3, q4, _⟩ := htup
      rw [z, q1] at q3
      cases q3
      rw [q2] at q4
      simp at q4
    have hae : a ≠ e := fun z => by
      obtain ⟨o2, q3, q4, _⟩ := htup
      rw [z, he] at q3
      cases q3
      simp at q4
    have hiu : its.toArray[i]? = some u := by simpa using hu
    have hlt : i < its.toArray.size := (Array.getElem?_eq_some_iff.mp hiu).1
    refine wpAny_pyNext_enum_itemD (Draws.tuple (prog := X.prog) (w := X.w) (A := X.A.in1) (I.ok.hd hc) it a hane its.toArray) he ⟨hit, htup⟩ hlt hne (fun z => by
      have z' : e = it ∨ e = a := by simpa using z
      rcases z' with z' | z'
      · exact hne z'
      · exact hae z'.symm) fun x' h' tk hP ho hst hT hsz hk => ?_
    have ex : x' = u := by
      have hP' : its.toArray[i]? = some x' := hP
      rw [hiu] at hP'
      exact (Option.some.inj hP').symm
    subst ex
    refine ⟨_, rfl, wpAny_letOwnedTupleGo_enum (s := { s with heap := h', toks := tk + 1 }) ho fun h'' he' sb => ?_⟩
    have hT2 : h''.get? s.heap.objs.size = some { cls := .type "tuple", data := .seq #[.int i tk, x'] } := (sb.2 _ (Nat.ne_of_gt hel)).trans hT
    have new : ObjOk X.prog X.w (upd H s.heap.objs.size (.tup [.int (i : Nat), x])) h'' s.heap.objs.size (.tup [.int (i : Nat), x]) :=
      ⟨by show 2 ≤ sizeLine; decide, [.int i tk, x'], .cons ⟨_, rfl⟩ (.cons ru .nil), ⟨_, hT2, rfl, _, rfl⟩⟩
    have I1 : Inv X pins σ (upd H s.heap.objs.size (.tup [.int (i : Nat), x])) { s with heap := h'', toks := tk + 1 } :=
      I.turnedNew (ch := [e, it]) (fun b ob hb q => (sb.2 b (fun z => hb (by simp [z]))).trans (hk b ob (fun z => hb (by simp [z])) (fun z => hb (by simp [z])) q)) hf (Nat.le_refl _) new
    refine ⟨.ref s.heap.objs.size, _, I1, rfl, ⟨_, x, rfl, I.hok.fresh (Nat.le_refl _), rfl, fun ys hy => by rw [I.tuple_inj hy hq]; exact hx⟩, ⟨⟨x', ?_⟩, hst.1.at fun o q => (sb.2 it (Ne.symm hne)).trans q, hne⟩, fun b hb => ?_⟩
    · have e1 : ((i + 1 : Nat) : Int) = (i : Int) + 1 := by omega
      rw [e1]; exact he'
    · have hb' : b < s.heap.objs.size := by
        have e' : b = e ∨ b = it := by simpa using hb
        rcases e' with z | z
        · rw [z]; exact hel
        · rw [z]; exact hil
      rw [upd_ne (Nat.ne_of_lt hb')]
      exact (hf b hb).1
  done := by
    intro X hP hw hK hc i pins s σ H E I hf st hg
    subst hP hw hK
    obtain ⟨⟨old, he⟩, hit, hne⟩ := st
    obtain ⟨xs, hq, hx⟩ := hg
    obtain ⟨its, rv, p, hz⟩ := I.tuple hq
    obtain ⟨f0, f1, f2, f3, f4, f5⟩ := hf it (by simp)
    have hl := rv.length
    have htup : s.heap.IsTuple a its.toArray := p
    have hT : s.TypeIs (.ref e) "enumerate" := ⟨_, he, rfl⟩
    unfold pyNext
    refine wpAny_bind (wpAny_attempt (wpAny_callSpecial?_slot (name := Str.ofString "__next__") hT PySem.F.slot_enumerate_next
      (wpAny_call_entry PySem.F.slot_enumerate_next hT PySem.F.entry_enumerate_next ?_ (PySem.F.args_enumerate_next_1 _))))
    show wpAny _ _ (field (.ref e) 2 >>= _) _ _ _
    refine wpAny_bind (wpAny_field he rfl (x := .ref it) rfl ?_)
    refine wpAny_bind (wpAny_nextOf_tuple_end (I.ok.hd hc) hit htup (by simp; omega) fun h' x he' hx' => ?_)
    obtain ⟨o, ho, hc'⟩ := hx'
    refine wpAny_bind (wpAny_isInstance (T := "StopIteration") (b := true) ⟨o, ho, hc'⟩ isSubtype_stop ?_)
    exact wpAny_pure ⟨rfl, I.turned (t' := s.toks) (fun b o hb q => he' b o hb q) f0 f1 f3 f4 f5⟩
  self := fun A i s Q E st h => let ⟨⟨_, he⟩, _⟩ := st; wpAny_pyIter_enum he h
def iEnumT (K : PySem.W.Frag) (ta : TA) : TI := fun σ H R => ta σ H fun vs H1 => ∃ a xs, vs = [.ref a] ∧ SqT K H1 a xs ∧ R (IteT K a) H1
theorem pi_enumT {X : Cx} {e : Expr} {ta : TA} {p pos tpos : Pos} {elts : List Expr} {kk : Nat} (hg : Gl X "enumerate") (hm : X.mg "enumerate" = none) (ha : PA X [e] ta) (hs : starEach [e] X.env = [(false, eval e X.env)] := by rfl) :
    PI X (.Tuple elts kk tpos) (.Call (.Name "enumerate" p) [e] [] pos) (iEnumT X.K ta) := by
  refine ⟨fun pins s σ H R I h => ?_⟩
  refine Call_ (ld_blt I hg hm boot_enumerate (PyProof.Rows.callWith_type1 (thn (ha.run pos pins s σ H _ I h) fun us s1 ⟨vs, H1, I1, r1, q1⟩ => ?_) hs rfl))
  obtain ⟨a, xs, ex, hq, q⟩ := q1
  subst ex
  cases r1 with
  | cons r rr =>
    cases rr
    cases r
    obtain ⟨its, rv, p', hz⟩ := I1.tuple hq
    have htup : s1.heap.IsTuple a its.toArray := p'
    refine call_enum1 (begins_tuple a its.toArray) htup fun h' he hit hsz hk => wpAny_pyIter_enum he ?_
    have I2 : Inv X pins σ H1 { s1 with heap := h' } := I1.kept (t' := s1.toks) hk
    refine ⟨s1.heap.objs.size + 1, [s1.heap.objs.size + 1, s1.heap.objs.size], _, _, H1, rfl, I2, turn_enumT a (s1.heap.objs.size + 1) s1.heap.objs.size, ⟨⟨.none, he⟩, ⟨_, hit, rfl, rfl⟩, Nat.succ_ne_self _⟩, fun b hb => ?_, q⟩
    have e' : b = s1.heap.objs.size + 1 ∨ b = s1.heap.objs.size := by simpa using hb
    have hle : s1.heap.objs.size ≤ b := by
      rcases e' with z | z
      · rw [z]; exact Nat.le_add_right _ _
      · rw [z]; exact Nat.le_refl _
    exact I1.fpOk hle (I1.hok.fresh hle)
theorem pi_or {X : Cx} {tg e : Expr} {t t' : TI} (h : PI X tg e t) (h' : PI X tg e t') : PI X tg e (fun σ H R => t σ H R ∨ t' σ H R) := ⟨fun pins s σ H R I q => q.elim (fun q => h.run pins s σ H R I q) fun q => h'.run pins s σ H R I q⟩
end Tr
end

section
set_option Elab.async false
set_option linter.all false
set_option autoImplicit false
set_option maxRecDepth 100000
/-! Loops over lists and tuples, enumerate, zip, [::-1], index, ranges of signs. -/
namespace Tr
open PySem PySem.Spec PyProof.Rows L2
section
variable {X : Cx} {c : Cu} {tg e : Expr} {fe : M T} {fl : M (List T)}
def anyItems : T → Option (List T)
  | .nd (.lst _) xs => some (T.fzL xs)
  | .nd .tup xs => some xs
  | _ => none
theorem fItems_eq {g g' : T → Option (List T)} {ρ : Env} (h : ∀ t ρ', fe ρ = .ok t ρ' → g t = g' t) : fItems fe g ρ = fItems fe g' ρ := by
  unfold fItems M.bind
  cases hf : fe ρ with
  | ok t ρ' => show lift (g t) ρ' = lift (g' t) ρ'; rw [h t ρ' hf]
  | exc _ _ => rfl
  | bad => rfl
theorem sit_any (h : SE X c e fe) : SIt X c tg e (fItems fe anyItems) := pi_imp (pi_or (sit_list (tg := tg) h) (sit_tup (tg := tg) h)) fun σ H Q h => by
  obtain ⟨ρ, R, I, P⟩ := h
  cases hf : fe ρ with
  | ok t ρ' =>
    by_cases ht : ∃ xs, t = .nd .tup xs
    · obtain ⟨xs, rfl⟩ := ht
      refine .inr ⟨ρ, R, I, ?_⟩
      rw [fItems_eq (g' := anyItems)]
      · exact P
      · intro t' ρ2 h2
        rw [hf] at h2
        injection h2 with h2 _
        subst h2
        rfl
    · refine .inl ⟨ρ, R, I, ?_⟩
      rw [fItems_eq (g' := anyItems)]
      · exact P
      · intro t' ρ2 h2
        rw [hf] at h2
        injection h2 with h2 _
        subst h2
        cases t with
        | nd k xs =>
          cases k with
          | tup => exact absurd ⟨xs, rfl⟩ ht
          | _ => rfl
        | _ => rfl
  | exc e' ρ' =>
    refine .inl ⟨ρ, R, I, ?_⟩
    rw [fItems_eq (g' := anyItems)]
    · exact P
    · intro t' ρ2 h2
      rw [hf] at h2
      cases h2
  | bad =>
    unfold fItems M.bind at P
    rw [hf] at P
    exact P.elim
theorem fzL_id {B : Tab} {H : Hp} : ∀ {l : List A}, OkL B H l → ownL l = [] → fzL l = l
  | [], _, _ => rfl
  | y :: l, hl, ho => by
    rw [ownL] at ho
    obtain ⟨h1, h2⟩ := List.append_eq_nil_iff.mp ho
    rw [fzL, fzL_id hl.2 h2]
    congr 1
    cases y with
    | nd k2 w2 a2 d2 ys =>
      rw [fz]
      split
      · rename_i hk
        rw [own] at h1
        obtain ⟨h3, _⟩ := List.append_eq_nil_iff.mp h1
        unfold ownN at h3
        rw [hk, hl.1.1.w_of hk] at h3
        simp at h3
      · rfl
    | _ => rfl
/-- a list, frozen -/
theorem fz_lst {B : Tab} {H : Hp} {m : Bool} {w : Bool} {a dx : Addr} {xs : List A} (ok : Ok B H (.nd (.lst m) w a dx xs)) : ∃ zs, fz (.nd (.lst m) w a dx xs) = .nd (.lst false) w a dx zs ∧ erL zs = T.fzL (erL xs) ∧ zs.map val = xs.map val := by
  cases m with
  | true => exact ⟨fzL xs, rfl, erL_fz xs, mval_fzL xs⟩
  | false => exact ⟨xs, rfl, by rw [← erL_fz, fzL_id ok.2.1 (ok.2.2 rfl)], rfl⟩
/-! ### enumerate -/
def pairsAt (xs : List T) : List T := xs.mapIdx fun i x => .nd .tup [.int (i : Nat), x]
def enL : List T → Option (List T)
  | [.nd (.lst _) xs] => some (pairsAt (T.fzL xs))
  | _ => none
def enT : List T → Option (List T)
  | [.nd .tup xs] => some (pairsAt xs)
  | _ => none
def enumItems : List T → Option (List T)
  | [.nd (.lst _) xs] => some (pairsAt (T.fzL xs))
  | [.nd .tup xs] => some (pairsAt xs)
  | _ => none
/-- the pairs of a frozen sequence -/
theorem enum_pairs {B : Tab} {J : It} {k : NK} {w : Bool} {a dx : Addr} {xs : List A} (hk : k.m = false) (hgo : ∀ i H x, NodeOk B H k w a dx (xs.map val) → (xs.map val)[i]? = some x → J.go i H)
    (hy : ∀ i H x H', NodeOk B H k w a dx (xs.map val) → J.yld i H x H' → ∃ T y, x = .ref T ∧ H T = none ∧ H' = upd H T (.tup [.int (i : Nat), y]) ∧ (xs.map val)[i]? = some y) (hst : ∀ i H, NodeOk B H k w a dx (xs.map val) → xs.length ≤ i → J.stop i H) : Enum B J (pairsAt (erL xs)) [.nd k w a dx xs] := by
  intro i H R w1
  have ok : Ok B H (.nd k w a dx xs) := w1.head
  have ow : own (.nd k w a dx xs) = [] := by
    rw [own, ok.2.2 hk]
    unfold ownN
    rw [hk]
    rfl
  refine ⟨fun t ht => ?_, fun h => hst i H ok.1 (by unfold pairsAt at h; rw [List.length_mapIdx, len_erL] at h; exact h)⟩
  unfold pairsAt at ht
  rw [List.getElem?_mapIdx, erL_get] at ht
  cases ex : xs[i]? with
  | none => rw [ex] at ht; cases ht
  | some r =>
    rw [ex] at ht
    have et : T.nd .tup [.int (i : Nat), er r] = t := Option.some.inj ht
    have ev : (xs.map val)[i]? = some (val r) := by rw [List.getElem?_map, ex]; rfl
    refine ⟨hgo i H _ ok.1 ev, fun x H' y => ?_⟩
    obtain ⟨TT, z, rfl, hT, rfl, e2⟩ := hy i H x H' ok.1 y
    rw [ev] at e2
    have ez : val r = z := Option.some.inj e2
    subst ez
    refine ⟨.nd .tup false TT 0 [.int (i : Nat), r], by rw [← et]; rfl, rfl, ?_⟩
    have w2 : W B H (.nd k w a dx xs :: (.nd k w a dx xs :: R)) := W.dup w1 ow
    have w3 : W B H (r :: (.nd k w a dx xs :: R)) := w2.child ex
    have orr : own r = [] := by
      have h0 := ok.2.2 hk
      have : ∀ l : List A, ownL l = [] → ∀ (i : Nat) (r : A), l[i]? = some r → own r = [] := by
        intro l
        induction l with
        | nil => intro _ i r h; simp at h
        | cons y l ih =>
          intro h i r hr
          rw [ownL] at h
          obtain ⟨h1, h2⟩ := List.append_eq_nil_iff.mp h
          cases i with
          | zero => simp at hr; subst hr; exact h1
          | succ i => exact ih h2 i r (by simpa using hr)
      exact this xs h0 i r ex
    have w4 : W B H ([.int (i : Nat), r] ++ (.nd k w a dx xs :: R)) := w3.int
    exact W.tup w4 hT (by rw [ownL, ownL, ownL, orr]; rfl)
theorem fItemsL_eq {g g' : List T → Option (List T)} {ρ : Env} (h : ∀ t ρ', fl ρ = .ok t ρ' → g t = g' t) : fItemsL fl g ρ = fItemsL fl g' ρ := by
  unfold fItemsL M.bind
  cases hf : fl ρ with
  | ok t ρ' => show lift (g t) ρ' = lift (g' t) ρ'; rw [h t ρ' hf]
  | exc _ _ => rfl
  | bad => rfl
variable {elts : List Expr} {kk : Nat} {tpos p pos : Pos}
theorem sit_enT (hm : X.mg "enumerate" = none) (h : SL X c [e] fl) (hg : Gl X "enumerate" := by rfl) (hs : starEach [e] X.env = [(false, eval e X.env)] := by rfl) : SIt X c (.Tuple elts kk tpos) (.Call (.Name "enumerate" p) [e] [] pos) (fItemsL fl enT) := pi_imp (pi_enumT hg hm h hs) fun σ H Q h => by
  obtain ⟨ρ, R, I, P⟩ := h
  refine sl_then I P fun rs H1 ρ1 I1 P1 => ?_
  obtain ⟨items, e1, q⟩ := P1.lift
  unfold enT at e1
  split at e1
  · rename_i ys eu
    cases e1
    obtain ⟨r, rfl, er1⟩ := er_one eu
    obtain ⟨w1, a1, d1, zs, rfl, rfl⟩ := er_nd er1
    obtain ⟨ρA, eA, mA, wA⟩ := id I1
    have ok : Ok (tab X c) H1 (.nd .tup w1 a1 d1 zs) := (okL_append.mp wA.ok).2.1
    have sq : ∀ H w', NodeOk (tab X c) H .tup w' a1 d1 (zs.map val) → SqT X.K H a1 (zs.map val) := fun H w' h => by
      cases w' with
      | true => exact h H
      | false => exact .inl (.inl h)
    refine ⟨a1, zs.map val, rfl, sq H1 w1 ok.1, ?_⟩
    refine q H1 (IteT X.K a1) [.nd .tup w1 a1 d1 zs] I1 (enum_pairs rfl (fun i H x h hx => ⟨_, _, sq H w1 h, hx⟩) (fun i H x H' h y => ?_) fun i H h hl => ⟨_, sq H w1 h, by rw [List.length_map]; exact hl⟩)
    obtain ⟨TT, x', y1, y2, y3, y4⟩ := y
    exact ⟨TT, x', y1, y2, y3, y4 _ (sq H w1 h)⟩
  · cases e1
theorem sit_enL (hm : X.mg "enumerate" = none) (h : SL X c [e] fl) (hg : Gl X "enumerate" := by rfl) (hs : starEach [e] X.env = [(false, eval e X.env)] := by rfl) : SIt X c (.Tuple elts kk tpos) (.Call (.Name "enumerate" p) [e] [] pos) (fItemsL fl enL) := pi_imp (pi_enum hg hm h hs) fun σ H Q h => by
  obtain ⟨ρ, R, I, P⟩ := h
  refine sl_then I P fun rs H1 ρ1 I1 P1 => ?_
  obtain ⟨items, e1, q⟩ := P1.lift
  unfold enL at e1
  split at e1
  · rename_i m ys eu
    cases e1
    obtain ⟨r, rfl, er1⟩ := er_one eu
    have I2 : SI X c σ H1 ρ1 ([fz r] ++ R) := I1.imp fun S w' => W.fz w'
    obtain ⟨w1, a1, d1, zs, rfl, rfl⟩ := er_nd er1
    obtain ⟨ρA, eA, mA, wA⟩ := id I1
    have ok : Ok (tab X c) H1 (.nd (.lst m) w1 a1 d1 zs) := (okL_append.mp wA.ok).2.1
    obtain ⟨ys, ez, ey, ev⟩ := fz_lst ok
    have okf := (fz_ok ok).1
    have sq : ∀ H w', NodeOk (tab X c) H (.lst false) w' a1 d1 (ys.map val) → SqL X.K H a1 (ys.map val) := fun H w' h => .inl (.inl h.2)
    rw [ez] at okf I2
    refine ⟨a1, zs.map val, rfl, by rw [← ev]; exact sq H1 w1 okf.1, ?_⟩
    refine q H1 (Ite X.K a1) [.nd (.lst false) w1 a1 d1 ys] I2 (by
      rw [← ey]
      exact enum_pairs rfl (fun i H x h hx => ⟨_, _, sq H w1 h, hx⟩) (fun i H x H' h y => by
        obtain ⟨TT, x', y1, y2, y3, y4⟩ := y
        exact ⟨TT, x', y1, y2, y3, y4 _ (sq H w1 h)⟩) fun i H h hl => ⟨_, sq H w1 h, by rw [List.length_map]; exact hl⟩)
  · cases e1
theorem sit_enum (hm : X.mg "enumerate" = none) (h : SL X c [e] fl) (hg : Gl X "enumerate" := by rfl) (hs : starEach [e] X.env = [(false, eval e X.env)] := by rfl) : SIt X c (.Tuple elts kk tpos) (.Call (.Name "enumerate" p) [e] [] pos) (fItemsL fl enumItems) := pi_imp (pi_or (sit_enL (elts := elts) (kk := kk) (tpos := tpos) hm h hg hs) (sit_enT (elts := elts) (kk := kk) (tpos := tpos) hm h hg hs)) fun σ H Q h => by
  obtain ⟨ρ, R, I, P⟩ := h
  cases hf : fl ρ with
  | ok ts ρ' =>
    by_cases ht : ∃ xs, ts = [.nd .tup xs]
    · obtain ⟨xs, rfl⟩ := ht
      refine .inr ⟨ρ, R, I, ?_⟩
      rw [fItemsL_eq (g' := enumItems)]
      · exact P
      · intro t' ρ2 h2
        rw [hf] at h2
        injection h2 with h2 _
        subst h2
        rfl
    · refine .inl ⟨ρ, R, I, ?_⟩
      rw [fItemsL_eq (g' := enumItems)]
      · exact P
      · intro t' ρ2 h2
        rw [hf] at h2
        injection h2 with h2 _
        subst h2
        rcases ts with _ | ⟨t1, _ | ⟨t2, ts⟩⟩
        · rfl
        · cases t1 with
          | nd k xs =>
            cases k with
            | tup => exact absurd ⟨xs, rfl⟩ ht
            | _ => rfl
          | _ => rfl
        · cases t1 with
          | nd k xs => cases k <;> rfl
          | _ => rfl
  | exc e' ρ' =>
    refine .inl ⟨ρ, R, I, ?_⟩
    rw [fItemsL_eq (g' := enumItems)]
    · exact P
    · intro t' ρ2 h2
      rw [hf] at h2
      cases h2
  | bad =>
    unfold fItemsL M.bind at P
    rw [hf] at P
    exact P.elim
end
theorem u65 {k : Nat} {A : Around} (r : Room k A) : A.units + 65 < cLine := by have := r.un; omega
theorem lets_of {X : Cx} {c : Cu} (tk : Takes X c.X) : Lets X c (L2.CX X.prog X.w) := fun σ => passAt (X := X) (W := c.X) tk σ
theorem pass_of {X : Cx} {W : WX} (tk : Takes X W) : Passes (L2.CX X.prog X.w) X (fun _ _ _ => False) := passes_call tk fun _ _ _ _ h => h.elim
/-- the class's part for raising it and asking its instances -/
structure ExF (P : Program) (K : PySem.W.Frag) (qual : Str) (st : Stmt) (C fI : Addr) (fd : FuncData) (ps : List Str) : Prop where
  S : SupC K C
  F : FunS P K "__init__" qual st fI fd C
  iC : PySem.W.findIn K (.ref C) "__init__" = some (some (.ref fI))
  tI : PySem.W.typeIn K (.ref fI) = some (.type "function")
  b : Binds K fd ps []
  E : ExcC K C
/-! ### xs[::-1] -/
section
variable {X : Cx} {c : Cu} {e : Expr} {fe : M T} {pos : Pos}
def gRev : T → Option T
  | .nd (.lst _) xs => some (.nd (.lst true) xs.reverse)
  | _ => none
theorem erL_rev (xs : List A) : erL xs.reverse = (erL xs).reverse := by rw [erL_map, erL_map, List.map_reverse]
theorem se_revL {k : Nat} {p1 p2 p3 : Pos} (h : SE X c e fe) : SE X c (.Subscript e (.Slice none none (some (.UnaryOp .USub (.Constant (.int 1) k p1) p2)) p3) pos) (f1 gRev fe) := pe_imp (pe_revL h) fun σ H Q h => by
  obtain ⟨ρ, R, I, P⟩ := h
  refine se_then I P fun x H1 ρ1 I1 P1 => ?_
  obtain ⟨t, e1, q⟩ := P1.lift
  unfold gRev at e1
  split at e1
  · rename_i m ys eu
    cases e1
    obtain ⟨w1, a1, d1, zs, rfl, rfl⟩ := er_nd eu
    obtain ⟨ρA, eA, mA, wA⟩ := id I1
    have ok : Ok (tab X c) H1 (.nd (.lst m) w1 a1 d1 zs) := (okL_append.mp wA.ok).2.1
    refine ⟨a1, zs.map val, rfl, sqL ok, fun p hp => ?_⟩
    refine SI.end_ (R' := [.nd (.lst m) w1 a1 d1 zs]) I1 q _ fun S w hz => ?_
    have wa : W (tab X c) H1 (zs ++ (R ++ S)) := W.open w
    have wb : W (tab X c) H1 (zs.reverse ++ (R ++ S)) := wa.perm ((List.reverse_perm zs).append_right _)
    rw [← List.map_reverse]
    exact hz _ _ (by rw [er, erL_rev]) (W.lst wb hp)
  · cases e1
end
/-! ### l.index(x) -/
def ixOf (ds : List PyData) (d : PyData) : Option Nat := ds.findIdx? fun z => PyData.eqv z d
def mIndex : T → List T → Option (T × T)
  | .nd (.lst m) xs, [y] => match pdL xs, pd y with
    | some ds, some d => if SeqAt.shaped (.list ds) && SeqAt.shaped d then (match ixOf ds d with
      | some j => some (.int (j : Nat), .nd (.lst m) xs)
      | none => none) else none
    | _, _ => none
  | _, _ => none
theorem sim_index {B : Tab} : SimM B "list" (rIndexD B.K) isLst mIndex := ⟨ty_lst, fun H leaf rs S t lt Q w g k => by
  unfold mIndex at g
  split at g
  · rename_i m xs y e1 e2
    obtain ⟨r, rfl, er1⟩ := er_one e2
    obtain ⟨w1, a1, d1, zs, rfl, rfl⟩ := er_nd e1
    split at g
    · rename_i ds d h1 h2
      split at g
      · rename_i hs
        simp only [Bool.and_eq_true] at hs
        split at g
        · rename_i j hj
          cases g
          unfold ixOf at hj
          obtain ⟨hlt, hj1, hj2⟩ := List.findIdx?_eq_some_iff_getElem.mp hj
          have ok1 : Ok B H (.nd (.lst m) w1 a1 d1 zs) := w.ok.1
          have ok2 : Ok B H r := w.ok.2.1
          have dl := dp_of (.nd (.lst m) w1 a1 d1 zs) (.list ds) ok1 (by rw [er, pd, h1])
          refine ⟨a1, val r, d, ds, j, ds[j], rfl, rfl, dl, dp_of r d ok2 (by rw [er1]; exact h2), hs.1, hs.2, List.getElem?_eq_getElem hlt, hj1, fun n z' hn hz => ?_, ?_⟩
          · obtain ⟨hl2, hz2⟩ := List.getElem?_eq_some_iff.mp hz
            have := hj2 n hn
            rw [hz2] at this
            simpa using this
          · exact k (.int (j : Nat)) (.nd (.lst m) w1 a1 d1 zs) H rfl rfl rfl (W.swap (W.int (w.perm (by exact (List.Perm.swap _ _ _))).drop))
        · cases g
      · cases g
    · cases g
  · cases g⟩
end Tr
end

section
set_option Elab.async false
set_option linter.all false
set_option autoImplicit false
set_option maxRecDepth 100000
/-! The exceptions' __init__. -/
namespace Tr
open PySem PySem.Spec PyProof.Rows L2 NdefX
section
variable {P : Program} {w : World} {K : PySem.W.Frag} {mg : Str → Option Value} {base : Heap} {qual : Str} {st : Stmt} {C f : Addr} {fd : FuncData} {ar : Arg} {p0 p1 p2 p3 p4 p5 p6 p7 p8 pe : Pos} {z : Str} {j : Nat}
theorem init0_ok (F : ExF P K qual st C f fd ["self"]) (SN : NScope ["self", "__class__"] ["self"] ["__class__"] (C8.fnScope st))
    (hbody : C8.fnBody st = [.Expr (.Call (.Attribute (.Call (.Name "super" p0) [] [] p1) "__init__" p2) [.Constant (.str z) j pe] [] p3) p4])
    (hp : ((C8.fnArgs st).posonlyargs ++ (C8.fnArgs st).args).head? = some ar) (har : ar.arg = "self") (hks : (C8.fnScope st).names.lookup ("super" : Str) = some NameKind.globalImplicit)
    (htop : (P.main.scope.names.lookup ("super" : Str)).isSome = false) (hmg : mg "super" = none) (hev : ∀ cc cda L : Addr, SupEv (envF (sF st "__init__" qual cc cda) f L) (.Constant (.str z) j pe) p0 p1 p2 p3) : FnOk P w K mg base (L2.CX P w) 1 f fd ["self"] (spI0 C) :=
  init_ok (N := ["self", "__class__"]) F.S F.F SN hbody hp (by rw [har]; rfl) hks (by rw [har]; exact SN.par _ (List.mem_singleton_self _)) htop hmg (by rintro vs H Q E ⟨a, rfl, _⟩; rfl)
    hev (fun env => rfl) (fun env => rfl) fun cc cda A outer s H vs Q E ⟨a, ev, ea, q⟩ => by
      subst ev
      exact ⟨a, _, _, pe_str, pss_nil, rfl, ea, fun Qk hq => ⟨rfl, ea, hq H q⟩⟩
end
end Tr
namespace Tr
open PySem PySem.Spec PyProof.Rows L2
section
variable {X : Cx} {c : Cu} {a : Expr} {fp : M (Nat × List Nat)} {pos p2 : Pos}
def isEmp (neg : Bool) (t : T) : Option Bool := (gEq t (.nd (.lst true) [])).map fun b => if neg then !b else b
def cEmp (neg : Bool) (fp : M (Nat × List Nat)) : M Bool := fp.bind fun ip => plU (isEmp neg) ip
theorem emp_ok {neg : Bool} {σ : L2.St} {H : Hp} {Q : Bool → Hp → Prop} (h : STr X c (cEmp neg fp) σ H Q) : SBr X c fp σ H fun x H1 => ([] : List V).length ≤ sizeLine ∧ ∀ p, H1 p = none → (∃ d e, Dp X.K (upd H1 p (.lst [])) x d ∧ Dp X.K (upd H1 p (.lst [])) (.ref p) e ∧ SeqAt.shaped d = true ∧ SeqAt.shaped e = true ∧ Q (if neg then !PyData.eqv d e else PyData.eqv d e) (upd H1 p (.lst []))) := by
  obtain ⟨ρ, R, I, P⟩ := h
  refine sb_then I P fun ip ρA H1 m1 w1 P1 => ?_
  obtain ⟨root, leaf, b, e1, e2, ok, e3, q⟩ := plB_ok w1 P1
  refine ⟨root, leaf, e1, e2, Nat.zero_le _, fun p hp => ?_⟩
  have e3 : isEmp neg (er leaf) = some b := e3
  unfold isEmp at e3
  cases hb : gEq (er leaf) (.nd (.lst true) []) with
  | none => rw [hb] at e3; cases e3
  | some b0 =>
    rw [hb] at e3
    have eb : (if neg then !b0 else b0) = b := Option.some.inj e3
    obtain ⟨d, e, h1, h2, h3, h4, rfl⟩ := gEq_of hb
    have ok1 : Ok (tab X c) (upd H1 p (.lst [])) leaf := ok.stay fun b hb o ho => by rw [upd_ne (ne_of_none ho hp)]; exact ho
    have ok2 : Ok (tab X c) (upd H1 p (.lst [])) (.nd (.lst true) false p 0 []) := ⟨⟨rfl, upd_same⟩, trivial, fun _ => rfl⟩
    refine ⟨d, e, dp_of leaf d ok1 h1, dp_of _ e ok2 h2, h3, h4, ?_⟩
    rw [eb]
    exact q _ ⟨ρA, rfl, m1, w1.laid hp⟩
variable (hu : X.A.units + 64 < cLine) (ha : SB X c a fp)
include hu ha
theorem sc_emp : SC X c (.Compare a [.Eq] [.List [] p2] pos) (cEmp false fp) := pt_imp (pt_cmpR (op_eqD hu) ha (pe_lst pa_nil) (nomark _)) fun σ H Q h => by
  obtain ⟨ρ, R, I, P⟩ := emp_ok h
  refine ⟨ρ, R, I, P.mono (fun _ _ i => i) fun ip ρ1 q ρA H1 e m w => ?_⟩
  obtain ⟨root, leaf, g1, g2, hl, q⟩ := q ρA H1 e m w
  refine ⟨root, leaf, g1, g2, hl, fun p hp => ?_⟩
  obtain ⟨d, e', h1, h2, h3, h4, q⟩ := q p hp
  exact ⟨d, e', h1, h2, h3, h4, _, rfl, q⟩
theorem sc_empN : SC X c (.Compare a [.NotEq] [.List [] p2] pos) (cEmp true fp) := pt_imp (pt_cmpR (op_neD hu) ha (pe_lst pa_nil) (nomark _)) fun σ H Q h => by
  obtain ⟨ρ, R, I, P⟩ := emp_ok h
  refine ⟨ρ, R, I, P.mono (fun _ _ i => i) fun ip ρ1 q ρA H1 e m w => ?_⟩
  obtain ⟨root, leaf, g1, g2, hl, q⟩ := q ρA H1 e m w
  refine ⟨root, leaf, g1, g2, hl, fun p hp => ?_⟩
  obtain ⟨d, e', h1, h2, h3, h4, q⟩ := q p hp
  exact ⟨d, e', h1, h2, h3, h4, _, rfl, q⟩
end
end Tr
end

section
set_option Elab.async false
set_option linter.all false
set_option autoImplicit false
set_option maxRecDepth 100000
/-! The head's facts. -/
namespace Tr
open PySem PySem.Spec PyProof.Rows L2 NdefX He
/-- one def: where it stands -/
structure HD where
  at_ : Str × Option Str
  name : Str
  qual : Str
  st : Stmt
abbrev FnX : Type := Option (Str × Str × Arguments × FuncBody × Scope × Addr × Addr)
def fnX (K : PySem.W.Frag) (p : Str × Option Str) : FnX := match K.lookup (fAd K p) with
  | some ⟨_, _, .func fd, _⟩ => some (fd.name, fd.qualname, fd.params, fd.body, fd.scope, fd.globals, fd.builtins)
  | _ => none
def HD.val (d : HD) : FnX := some (d.name, d.qual, defArgs d.st, .stmts (defBody d.st), defScope d.st, mainGlobals, builtinsNs)
def isNoneV : Value → Bool
  | .none => true
  | _ => false
theorem isNoneV_ok {v : Value} (h : isNoneV v = true) : v = .none := by cases v <;> first | rfl | cases h
def HD.okB (K : PySem.W.Frag) (d : HD) : Bool := PySem.W.keepIn K (.ref (fAd K d.at_)) && (match K.lookup (fAd K d.at_) with
  | some ⟨_, _, .func fd, _⟩ => fd.closure.isEmpty && (isNoneV fd.defaults && PySem.W.codeIn K fd.code d.qual)
  | _ => false)
theorem HD.fun_ {K : PySem.W.Frag} {d : HD} (e : fnX K d.at_ = d.val) (c : d.okB K = true) : ∃ fd, Fun K d.name d.qual d.st (fAd K d.at_) fd := by
  obtain ⟨kp, c2⟩ := ba c
  unfold fnX at e
  cases q : K.lookup (fAd K d.at_) with
  | none => rw [q] at c2; cases c2
  | some o =>
    obtain ⟨oc, od, dt, osl⟩ := o
    rw [q] at c2 e
    cases dt with
    | func fd =>
      dsimp only at e c2
      obtain ⟨n1, n2, n3, n4, n5, n6, n7, n8, n9, n10, n11, n12, n13, n14, n15⟩ := fd
      obtain ⟨c3, c4⟩ := ba c2
      obtain ⟨c5, c6⟩ := ba c4
      have e2 : (some (n1, n2, n3, n4, n5, n6, n15) : FnX) = some (d.name, d.qual, defArgs d.st, .stmts (defBody d.st), defScope d.st, mainGlobals, builtinsNs) := e
      simp only [Option.some.injEq, Prod.mk.injEq] at e2
      obtain ⟨h1, h2, h3, h4, h5, h6, h9⟩ := e2
      have h7 : n7 = [] := List.isEmpty_iff.mp c3
      have h8 : n8 = .none := isNoneV_ok c5
      subst h1 h2 h3 h4 h5 h6 h7 h8 h9
      exact ⟨_, fun_mk q c6 kp⟩
    | _ => cases c2
theorem fnArgs_eq (st : Stmt) : C8.fnArgs st = defArgs st := by cases st <;> rfl
theorem fnBody_eq (st : Stmt) : C8.fnBody st = defBody st := by cases st <;> rfl
theorem fnScope_eq (st : Stmt) : C8.fnScope st = defScope st := by cases st <;> rfl
/-- an exception's __init__ -/
def HD.excB (pf : Str) (K : PySem.W.Frag) (C : Addr) (d : HD) : Bool := match K.lookup (fAd K d.at_) with
  | some ⟨_, _, .func fd, _⟩ => (match fd.closure, fd.defaults, fd.kwdefaults, fd.annotations, fd.code with
    | [(x, cc)], .none, .none, none, .ref cda => decide (x = "__class__") && (PySem.W.codeIn K (.ref cda) d.qual && ((match K.lookup cc with
      | some ⟨_, _, .cell (some (.ref C')), _⟩ => decide (C' = C)
      | _ => false) && (match K.lookup cda with
      | some ⟨_, _, .fields vs, _⟩ => (match (vs[2]? : Option Value) with
        | some (.str file _) => pf == file
        | _ => false)
      | _ => false)))
    | _, _, _, _, _ => false)
  | _ => false
theorem HD.funS {P : Program} {K : PySem.W.Frag} {C : Addr} {d : HD} (e : fnX K d.at_ = d.val) (c : d.excB P.main.file K C = true) : ∃ fd, FunS P K d.name d.qual d.st (fAd K d.at_) fd C := by
  unfold fnX at e
  unfold HD.excB at c
  cases q : K.lookup (fAd K d.at_) with
  | none => rw [q] at c; cases c
  | some o =>
    obtain ⟨oc, od, dt, osl⟩ := o
    rw [q] at c e
    cases dt with
    | func fd =>
      dsimp only at e c
      obtain ⟨n1, n2, n3, n4, n5, n6, n7, n8, n9, n10, n11, n12, n13, n14, n15⟩ := fd
      dsimp only at c
      split at c
      · rename_i x cc cda
        obtain ⟨c1, c⟩ := ba c
        obtain ⟨c2, c⟩ := ba c
        obtain ⟨c3, c4⟩ := ba c
        have ex := of_decide_eq_true c1
        subst ex
        have e2 : (some (n1, n2, n3, n4, n5, n6, n15) : FnX) = some (d.name, d.qual, defArgs d.st, .stmts (defBody d.st), defScope d.st, mainGlobals, builtinsNs) := e
        simp only [Option.some.injEq, Prod.mk.injEq] at e2
        obtain ⟨h1, h2, h3, h4, h5, h6, h9⟩ := e2
        subst h1 h2 h3 h4 h5 h6 h9
        split at c3
        · rename_i x1 x2 C' x4 hcc
          have eC := of_decide_eq_true c3
          subst eC
          split at c4
          · rename_i y1 y2 vs y4 hcd
            split at c4
            · rename_i file tf hvs
              refine ⟨_, ⟨oc, od, n10, n11, n14, osl, cc, cda, _, _, _, _, _, _, vs, file, tf, ?_, q, c2, hcc, hcd, hvs, c4⟩⟩
              rw [← fnArgs_eq, ← fnBody_eq, ← fnScope_eq] <;> rfl
            · cases c4
          · cases c4
        · cases c3
      · cases c
    | _ => cases c
/-- the class C, fI its __init__ -/
def clsVB (K : PySem.W.Frag) (C : Addr) : Bool := match K.lookup C with
  | some ⟨.type "type", _, .cls cd, sl⟩ => (match cd.mro, sl.toList with
    | .ref C' :: bm, [_, _, _, _, some (.builtin n), _] => C' == C && (n == "ValueError.__new__" && (!cd.hasDel && (cd.hasDict && PySem.HandSPX.refsVE bm)))
    | _, _ => false)
  | _ => false
theorem clsVB_ok {K : PySem.W.Frag} {C : Addr} (q : clsVB K C = true) : ∃ nm q N bs bm sn sub ab col dd k0 k1 k2 k3 k5, K.lookup C = some (excClassObj nm q C N bs bm true sn sub ab col dd k0 k1 k2 k3 k5 "ValueError.__new__") ∧ PySem.HandSPX.refsVE bm = true := by
  unfold clsVB at q
  split at q
  · rename_i dd cd sl ho
    split at q
    · rename_i C' bm k0 k1 k2 k3 n k5 hm hs
      simp only [Bool.and_eq_true, beq_iff_eq, Bool.not_eq_true'] at q
      obtain ⟨rfl, rfl, hdel, hdict, ht⟩ := q
      obtain ⟨nm, bs, mro, ns, qn, hd, sn, sub, ab, col, del⟩ := cd
      dsimp only at hm hdel hdict
      subst hm hdel hdict
      have hsl : sl = #[k0, k1, k2, k3, some (.builtin "ValueError.__new__"), k5] := by
        obtain ⟨l⟩ := sl
        simp only at hs
        rw [hs]
      subst hsl
      exact ⟨nm, qn, ns, bs, bm, sn, sub, ab, col, dd, k0, k1, k2, k3, k5, ho, ht⟩
    · cases q
  · cases q
def exFacts (K : PySem.W.Frag) (C fI : Addr) : List Bool :=
  [clsVB K C, eqO (PySem.W.findIn K (.ref C) "__setattr__") (some (some (.builtin "object.__setattr__"))), decide (PySem.W.subIn K (.ref C) (.type "BaseException") = some true), decide (PySem.W.typeIn K (.ref C) = some (.type "type")), PySem.W.keepIn K (.ref C),
   decide (PySem.W.mroIn K C (.ref C) = some true), eqO (PySem.W.ks_superIn K C C "__init__") (some (some (.builtin "ValueError.__init__"))), decide (PySem.W.subIn K (.ref C) (.type "ValueError") = some true), eqO (PySem.W.nsIn K cStatics "thirdparty.any") (some none), eqO (PySem.W.nsIn K mainGlobals "super") (some none),
   eqO (PySem.W.findIn K (.ref C) "__init__") (some (some (.ref fI))), decide (PySem.W.typeIn K (.ref fI) = some (.type "function")),
   eqO (PySem.W.findIn K (.ref C) "__getattribute__") (some (some (.builtin "BaseException.__getattribute__"))), eqO (PySem.W.findIn K (.ref C) "__getattr__") (some none), PySem.W.hasDictIn K C, eqO (PySem.W.findIn K (.ref C) "__class__") (some (some (.builtin "object.__class__"))),
   eqO (PySem.W.specialIn K (.builtin "object.__class__") "__get__") (some (some (.builtin "getset_descriptor.__get__"))), decide (PySem.W.takesIn K (.builtin "object.__class__") = some true), decide (PySem.W.mroIn K C (.type "object") = some true)]
theorem exf_ok {P : Program} {K : PySem.W.Frag} {qual : Str} {st : Stmt} {C fI : Addr} {fd : FuncData} {ps : List Str} (h : (exFacts K C fI).all id = true) (F : FunS P K "__init__" qual st fI fd C) (b : Binds K fd ps []) : ExF P K qual st C fI fd ps := by
  simp only [exFacts, List.all_cons, List.all_nil, id, Bool.and_true, Bool.and_eq_true, decide_eq_true_eq] at h
  obtain ⟨h1, h2, h3, h4, h5, h6, h7, h8, h9, h10, h11, h12, h13, h14, h15, h16, h17, h18, h19⟩ := h
  exact ⟨⟨⟨clsVB_ok h1, eqO_ok h2, h3, h4, h5⟩, h6, eqO_ok h7, h8, eqO_ok h9, eqO_ok h10⟩, F, eqO_ok h11, h12, b, ⟨eqO_ok h13, eqO_ok h14, h3, h15, eqO_ok h16, eqO_ok h17, h18, h19⟩⟩
theorem FunS.binds {P : Program} {K : PySem.W.Frag} {x qual : Str} {st : Stmt} {f C : Addr} {fd : FuncData} {ps : List Str} (F : FunS P K x qual st f fd C)
    (h : ∀ (cc cda : Addr) (doc pm ct : Value) (us : List Value), us.length = ps.length → bindArgs ((sF st x qual cc cda).fd doc pm ct) ⟨us, []⟩ = pure (ps.zip us)) : Binds K fd ps [] := by
  obtain ⟨oc, od, doc, pm, ct, osl, cc, cda, cl, ccl, cld, cdd, csl, ccs, vs, file, tf, rfl, _⟩ := F.ex
  exact .all (h cc cda doc pm ct)
/-! ### the Hook -/
abbrev AlM : Type := Bool × List FnX
def kM (n : Nat) (g : Addr → Option Obj) : PySem.W.Frag := frG g (asD g n ++ [cStatics])
def obsM (fn : List HD) (ex : PySem.W.Frag → Bool) (K : PySem.W.Frag) : AlM := (ex K, fn.map fun d => fnX K d.at_)
def valM (fn : List HD) : AlM := (true, fn.map HD.val)
def SaysM (fn : List HD) (ex : PySem.W.Frag → Bool) (K : PySem.W.Frag) : Prop := obsM fn ex K = valM fn
def obsMG (n : Nat) (fn : List HD) (ex : PySem.W.Frag → Bool) (g : Addr → Option Obj) : AlM := obsM fn ex (kM n g)
def hookM (n : Nat) (fn : List HD) (ex : PySem.W.Frag → Bool) : PySem.W.Hook where
  α := AlM
  obs := fun s => obsMG n fn ex s.heap.get?
  val := fun _ => valM fn
  says := fun _ h => ∃ K : PySem.W.Frag, K.In h ∧ SaysM fn ex K
  of := fun _ _ e => ⟨_, frG_in, e⟩
  keeps := fun _ _ _ ⟨K, hK, c⟩ k => ⟨K, PySem.W.Frag.In.keeps hK k, c⟩
theorem obsMG_eq {n : Nat} {fn : List HD} {ex : PySem.W.Frag → Bool} {g : Addr → Option Obj} {s : Shared} (h : ∀ a, g a = s.heap.get? a) : obsMG n fn ex g = (hookM n fn ex).obs s := by
  have e : g = s.heap.get? := funext h
  rw [e] <;> rfl
section
variable {fn : List HD} {ex : PySem.W.Frag → Bool} {K : PySem.W.Frag}
theorem SaysM.flag (c : SaysM fn ex K) : ex K = true := congrArg (fun z : AlM => z.1) c
theorem SaysM.at_ (c : SaysM fn ex K) (i : Nat) {d : HD} (h : fn[i]? = some d := by rfl) : fnX K d.at_ = d.val := by
  have e : fn.map (fun d => fnX K d.at_) = fn.map HD.val := congrArg (fun z : AlM => z.2) c
  have e2 : (fn.map fun d => fnX K d.at_)[i]? = (fn.map HD.val)[i]? := by rw [e]
  rw [List.getElem?_map, List.getElem?_map, h] at e2
  exact Option.some.inj e2
end
end Tr
end

section
set_option Elab.async false
set_option linter.all false
set_option autoImplicit false
set_option maxRecDepth 100000
/-! The end: the law's def, called with the script. -/
namespace Tr
open PySem PySem.Spec PyProof.Rows L2 NdefX He
theorem erL_ints (ns : List Int) : erL (ns.map A.int) = ns.map T.int := erL_int ns
theorem okL_ints {B : Tab} {H : Hp} : ∀ ns : List Int, OkL B H (ns.map A.int)
  | [] => trivial
  | _ :: ns => ⟨trivial, okL_ints ns⟩
theorem ownL_ints : ∀ ns : List Int, ownL (ns.map A.int) = []
  | [] => rfl
  | _ :: ns => by rw [List.map_cons, ownL, ownL_ints ns]; rfl
theorem law_end {K : PySem.W.Frag} {ct : Nat → Addr} {ef : Nat → List Str} {f : CF} {H : Hp} {a : Addr} {ns : List Int} (hf : ∃ ts, f [.nd .scr (ns.map T.int)] = .ret (.bl true) ts) (hO : Only H) (hS : SqL K H a (ns.map V.int)) :
    spF ⟨K, ct, ef⟩ f [.ref a] H (fun v _ => v = .bl true) fun _ _ _ => False := by
  have root : ∃ w, Ok ⟨K, ct, ef⟩ H (.nd .scr w a 0 (ns.map A.int)) := by
    rcases hS with (h | ⟨o, h⟩) | ⟨o, its, n, h1, h2, h3, h4, h5, h6⟩
    · rcases hO a with z | ⟨o, xs, z⟩
      · rw [h] at z; cases z
      · rw [h] at z; cases z
    · exact ⟨false, ⟨⟨o, by rw [vals_int]; exact h⟩, okL_ints ns, fun _ => ownL_ints ns⟩⟩
    · exact ⟨true, ⟨fun H' => by rw [vals_int]; exact .inr ⟨o, its, n, h1, h2, h3, h4, h5, h6⟩, okL_ints ns, fun _ => ownL_ints ns⟩⟩
  obtain ⟨w, ok⟩ := root
  have ow : own (.nd .scr w a 0 (ns.map A.int)) = [] := by rw [own, ownL_ints]; rfl
  refine ⟨[.nd .scr w a 0 (ns.map A.int)], [], ⟨⟨ok, trivial⟩, ?_, ?_⟩, rfl, ?_⟩
  · show (ownL [A.nd .scr w a 0 (ns.map A.int)]).Nodup
    rw [ownL, ow]; exact List.nodup_nil
  · intro b hb
    have hb : b ∈ ownL [A.nd .scr w a 0 (ns.map A.int)] := hb
    rw [ownL, ow] at hb
    cases hb
  · obtain ⟨ts, e⟩ := hf
    have e2 : f (erL [A.nd .scr w a 0 (ns.map A.int)]) = .ret (.bl true) ts := by rw [erL, er, erL_int]; exact e
    rw [e2]
    intro r ys H' er1 _ _ _
    rw [er_bl er1]; rfl
theorem cx_end {P : Program} {w : World} {H : Hp} {s : Shared} {e : Value} {s' : Shared} (h : L2.CX P w [] H s (fun _ _ _ => False) e s') : False := by
  obtain ⟨_, _, _, _, _, _, _, _, _, _, _, _, h⟩ := h
  exact h
theorem walk_law {l : PySem.W.OpenLaw} {n k : Nat} {q : Program} {loose : List Str} {XP : (Str → Option Value) → Heap → Prop} {YP : World → Heap → Prop} {d : DefRec} {x : Str}
    (hn : l.most = some n) (hn2 : n ≤ sizeLine) (hdf : d.params.defaults = []) (hr : Room k callerA)
    (F : ∀ (w : World) (mg : Str → Option Value) (fa : Addr) (h : Heap), YP w h → h.Ns mainGlobals mg → mg d.name = some (.ref fa) →
      ∃ (K : PySem.W.Frag) (fd : FuncData) (ct : Nat → Addr) (ef : Nat → List Str) (f : CF), K.In h ∧ (∀ (s : Shared) (u : Value), BindsTo s fd ⟨[u], []⟩ [(x, u)]) ∧
        (∀ ns : List Int, ns.length ≤ n → (∀ z ∈ ns, Builtin.Int.intBits z ≤ 1048576) → ∃ ts, f [.nd .scr (ns.map T.int)] = .ret (.bl true) ts) ∧
        ∀ base : Heap, K.In base → base.Ns mainGlobals mg → FnOk l.prog w K mg base (L2.CX l.prog w) k fa fd [x] (spF ⟨K, ct, ef⟩ f)) :
    PySem.W.WalkO q loose XP YP l.row.toRowW d [] (fun f vs => PySem.call f vs) := by
  refine Att.attach_callB hn hdf fun w s₀ s₁ mg mb fa o pm cd doc a vs ns G Y ho hd hcd hmg hobj hints hlen hbits hg => ?_
  obtain ⟨K, fd, ct, ef, f, KX, hb, hsp, hF⟩ := F w mg fa _ Y G.T.g hmg
  exact law_call KX G.T.g G.T.b G.T.builtins G.T.nolimit hg hobj hints (Nat.le_trans hlen hn2) hr hF hb (fun H hO hS => law_end (hsp ns hlen hbits) hO hS) fun H e s' => cx_end
theorem bindsA {K : PySem.W.Frag} {x qual : Str} {st : Stmt} {f : Addr} {fd : FuncData} {ps : List Str} (F : Fun K x qual st f fd)
    (h : ∀ (kV doc pm : Value) (an : Option Addr) (cdv ct : Value) (us : List Value), us.length = ps.length → bindArgs (PySem.W.fnOf x qual (defArgs st) (defBody st) (defScope st) .none kV doc pm an cdv ct) ⟨us, []⟩ = pure (ps.zip us)) (s : Shared) (us : List Value) (hl : us.length = ps.length) : BindsTo s fd ⟨us, []⟩ (ps.zip us) := by
  obtain ⟨oc, od, kV, doc, pm, an, cdv, ct, osl, rfl, lk, hcd⟩ := F.ex
  exact BindsTo.of_eq (h kV doc pm an cdv ct us hl)
end Tr
end

section
set_option Elab.async false
set_option linter.all false
set_option autoImplicit false
set_option maxRecDepth 100000
/-! Evaluating the functions on trees step by step (for simp). -/
namespace Tr
open PySem PySem.Spec PyProof.Rows L2
variable {α β : Type}
theorem ev_ok (a : α) (ρ : Env) (k : α → Env → Rs β) : (Rs.ok a ρ).bind k = k a ρ := rfl
theorem ev_exc (e : Ex) (ρ : Env) (k : α → Env → Rs β) : (Rs.exc e ρ : Rs α).bind k = .exc e ρ := rfl
theorem ev_ret (a : α) (ρ : Env) : M.ret a ρ = .ok a ρ := rfl
theorem ev_lift (a : α) (ρ : Env) : lift (some a) ρ = .ok a ρ := rfl
/-! places -/
def plK (i : Nat) (ρ : Env) : Option (Option T) → Rs (Nat × List Nat)
  | some (some _) => .ok (i, []) ρ
  | _ => .bad
theorem ev_pl (i : Nat) (ρ : Env) : fPl i ρ = plK i ρ ρ[i]? := rfl
theorem ev_plK (i : Nat) (ρ : Env) (t : T) : plK i ρ (some (some t)) = .ok (i, []) ρ := rfl
def rdK (i : Nat) (p : List Nat) (ρ : Env) : Option (Option T) → Rs T
  | some (some r) => match r.get p with
    | some l => .ok l.fz (ρ.set i (some (r.set p l.fz)))
    | none => .bad
  | _ => .bad
theorem ev_rd (fp : M (Nat × List Nat)) (ρ : Env) : fRd fp ρ = (fp ρ).bind rdPl := rfl
theorem ev_rdPl (i : Nat) (p : List Nat) (ρ : Env) : rdPl (i, p) ρ = rdK i p ρ ρ[i]? := rfl
theorem ev_rdK (i : Nat) (p : List Nat) (ρ : Env) (r : T) : rdK i p ρ (some (some r)) = match r.get p with
    | some l => .ok l.fz (ρ.set i (some (r.set p l.fz)))
    | none => .bad := rfl
def ixK (g : Env → Option T) (ip : Nat × List Nat) (ρ : Env) : Rs (Nat × List Nat) := match g ρ with
  | some t => match atomV t with
    | some _ => deeper (fun l => posIx l t) ip ρ
    | none => .bad
  | none => .bad
theorem ev_ix (g : Env → Option T) (fp : M (Nat × List Nat)) (ρ : Env) : fIx g fp ρ = (fp ρ).bind (ixK g) := rfl
theorem ev_ixK (g : Env → Option T) (ip : Nat × List Nat) (ρ : Env) : ixK g ip ρ = match g ρ with
  | some t => match atomV t with
    | some _ => deeper (fun l => posIx l t) ip ρ
    | none => .bad
  | none => .bad := rfl
def dpK (pos : T → Option Nat) (i : Nat) (p : List Nat) (ρ : Env) : Option (Option T) → Rs (Nat × List Nat)
  | some (some r) => match r.get p with
    | some l => match pos l with
      | some j => match r.get (p ++ [j]) with
        | some _ => .ok (i, p ++ [j]) ρ
        | none => .bad
      | none => .bad
    | none => .bad
  | _ => .bad
theorem ev_deeper (pos : T → Option Nat) (i : Nat) (p : List Nat) (ρ : Env) : deeper pos (i, p) ρ = dpK pos i p ρ ρ[i]? := rfl
theorem ev_dpK (pos : T → Option Nat) (i : Nat) (p : List Nat) (ρ : Env) (r : T) : dpK pos i p ρ (some (some r)) = match r.get p with
    | some l => match pos l with
      | some j => match r.get (p ++ [j]) with
        | some _ => .ok (i, p ++ [j]) ρ
        | none => .bad
      | none => .bad
    | none => .bad := rfl
/-! operations -/
def f2K2 (g : T → T → Option T) (x y : T) (ρ : Env) : Rs T := lift (g x y) ρ
def f2K1 (g : T → T → Option T) (fb : M T) (x : T) (ρ : Env) : Rs T := (fb ρ).bind (f2K2 g x)
theorem ev_f2 (g : T → T → Option T) (fa fb : M T) (ρ : Env) : f2 g fa fb ρ = (fa ρ).bind (f2K1 g fb) := rfl
theorem ev_f2K1 (g : T → T → Option T) (fb : M T) (x : T) (ρ : Env) : f2K1 g fb x ρ = (fb ρ).bind (f2K2 g x) := rfl
theorem ev_f2K2 (g : T → T → Option T) (x y : T) (ρ : Env) : f2K2 g x y ρ = lift (g x y) ρ := rfl
def f1K (g : T → Option T) (x : T) (ρ : Env) : Rs T := lift (g x) ρ
theorem ev_f1 (g : T → Option T) (fa : M T) (ρ : Env) : f1 g fa ρ = (fa ρ).bind (f1K g) := rfl
theorem ev_f1K (g : T → Option T) (x : T) (ρ : Env) : f1K g x ρ = lift (g x) ρ := rfl
def cCK2 (g : T → T → Option Bool) (x y : T) (ρ : Env) : Rs Bool := lift (g x y) ρ
def cCK1 (g : T → T → Option Bool) (fb : M T) (x : T) (ρ : Env) : Rs Bool := (fb ρ).bind (cCK2 g x)
theorem ev_cC (g : T → T → Option Bool) (fa fb : M T) (ρ : Env) : cC g fa fb ρ = (fa ρ).bind (cCK1 g fb) := rfl
theorem ev_cCK1 (g : T → T → Option Bool) (fb : M T) (x : T) (ρ : Env) : cCK1 g fb x ρ = (fb ρ).bind (cCK2 g x) := rfl
theorem ev_cCK2 (g : T → T → Option Bool) (x y : T) (ρ : Env) : cCK2 g x y ρ = lift (g x y) ρ := rfl
theorem ev_vC (g : T → T → Option Bool) (fa fb : M T) (ρ : Env) : vC g fa fb ρ = f2 (fun x y => (g x y).map T.bl) fa fb ρ := rfl
def tstK (t : T) (ρ : Env) : Rs Bool := lift (truthB t) ρ
theorem ev_tst (fa : M T) (ρ : Env) : fTest fa ρ = (fa ρ).bind tstK := rfl
theorem ev_tstK (b : Bool) (ρ : Env) : tstK (.bl b) ρ = .ok b ρ := rfl
def andK (fb : M Bool) (b : Bool) (ρ : Env) : Rs Bool := (if b then fb else M.ret false) ρ
theorem ev_and (fa fb : M Bool) (ρ : Env) : bAnd fa fb ρ = (fa ρ).bind (andK fb) := rfl
theorem ev_andT (fb : M Bool) (ρ : Env) : andK fb true ρ = fb ρ := rfl
theorem ev_andF (fb : M Bool) (ρ : Env) : andK fb false ρ = .ok false ρ := rfl
def orK (fb : M Bool) (b : Bool) (ρ : Env) : Rs Bool := (if b then M.ret true else fb) ρ
theorem ev_or (fa fb : M Bool) (ρ : Env) : bOr fa fb ρ = (fa ρ).bind (orK fb) := rfl
theorem ev_orT (fb : M Bool) (ρ : Env) : orK fb true ρ = .ok true ρ := rfl
theorem ev_orF (fb : M Bool) (ρ : Env) : orK fb false ρ = fb ρ := rfl
def notK (b : Bool) (ρ : Env) : Rs Bool := .ok (!b) ρ
theorem ev_not (fa : M Bool) (ρ : Env) : bNot fa ρ = (fa ρ).bind notK := rfl
theorem ev_notK (b : Bool) (ρ : Env) : notK b ρ = .ok (!b) ρ := rfl
def ifK (ga gb : M T) (b : Bool) (ρ : Env) : Rs T := (if b then ga else gb) ρ
theorem ev_if (fc : M Bool) (ga gb : M T) (ρ : Env) : fIf fc ga gb ρ = (fc ρ).bind (ifK ga gb) := rfl
theorem ev_ifT (ga gb : M T) (ρ : Env) : ifK ga gb true ρ = ga ρ := rfl
theorem ev_ifF (ga gb : M T) (ρ : Env) : ifK ga gb false ρ = gb ρ := rfl
/-! arguments -/
theorem ev_nil (ρ : Env) : fNil ρ = .ok [] ρ := rfl
def consK2 (x : T) (xs : List T) (ρ : Env) : Rs (List T) := .ok (x :: xs) ρ
def consK1 (fl : M (List T)) (x : T) (ρ : Env) : Rs (List T) := (fl ρ).bind (consK2 x)
theorem ev_cons (f : M T) (fl : M (List T)) (ρ : Env) : fCons f fl ρ = (f ρ).bind (consK1 fl) := rfl
theorem ev_consK1 (fl : M (List T)) (x : T) (ρ : Env) : consK1 fl x ρ = (fl ρ).bind (consK2 x) := rfl
theorem ev_consK2 (x : T) (xs : List T) (ρ : Env) : consK2 x xs ρ = .ok (x :: xs) ρ := rfl
def callLK (g : List T → Option T) (xs : List T) (ρ : Env) : Rs T := lift (g xs) ρ
theorem ev_callL (g : List T → Option T) (fl : M (List T)) (ρ : Env) : fCallL g fl ρ = (fl ρ).bind (callLK g) := rfl
theorem ev_callLK (g : List T → Option T) (xs : List T) (ρ : Env) : callLK g xs ρ = lift (g xs) ρ := rfl
def itLK (g : List T → Option (List T)) (xs : List T) (ρ : Env) : Rs (List T) := lift (g xs) ρ
theorem ev_itL (g : List T → Option (List T)) (fl : M (List T)) (ρ : Env) : fItemsL fl g ρ = (fl ρ).bind (itLK g) := rfl
theorem ev_itLK (g : List T → Option (List T)) (xs : List T) (ρ : Env) : itLK g xs ρ = lift (g xs) ρ := rfl
def itK (g : T → Option (List T)) (x : T) (ρ : Env) : Rs (List T) := lift (g x) ρ
theorem ev_it (g : T → Option (List T)) (fe : M T) (ρ : Env) : fItems fe g ρ = (fe ρ).bind (itK g) := rfl
theorem ev_itK (g : T → Option (List T)) (x : T) (ρ : Env) : itK g x ρ = lift (g x) ρ := rfl
theorem ev_anil (ρ : Env) : fANil ρ = .ok [] ρ := rfl
def avK2 (x : T) (xs : List AR) (ρ : Env) : Rs (List AR) := .ok (.v x :: xs) ρ
def avK1 (fl : M (List AR)) (x : T) (ρ : Env) : Rs (List AR) := (fl ρ).bind (avK2 x)
theorem ev_av (f : M T) (fl : M (List AR)) (ρ : Env) : fAV f fl ρ = (f ρ).bind (avK1 fl) := rfl
theorem ev_avK1 (fl : M (List AR)) (x : T) (ρ : Env) : avK1 fl x ρ = (fl ρ).bind (avK2 x) := rfl
theorem ev_avK2 (x : T) (xs : List AR) (ρ : Env) : avK2 x xs ρ = .ok (.v x :: xs) ρ := rfl
def aiK (j : Nat) (xs : List AR) (ρ : Env) : Rs (List AR) := .ok (.i j :: xs) ρ
def aiJ (j : Nat) (fl : M (List AR)) (ρ : Env) : Option (Option T) → Rs (List AR)
  | some (some _) => (fl ρ).bind (aiK j)
  | _ => .bad
theorem ev_ai (j : Nat) (fl : M (List AR)) (ρ : Env) : fAI j fl ρ = aiJ j fl ρ ρ[j]? := rfl
theorem ev_aiJ (j : Nat) (fl : M (List AR)) (ρ : Env) (t : T) : aiJ j fl ρ (some (some t)) = (fl ρ).bind (aiK j) := rfl
theorem ev_aiK (j : Nat) (xs : List AR) (ρ : Env) : aiK j xs ρ = .ok (.i j :: xs) ρ := rfl
theorem ev_call (cf : CF) (fa : M (List AR)) (ρ : Env) : fCall cf fa ρ = (fa ρ).bind (callAR cf) := rfl
/-- the end of a call -/
def coK (ars : List AR) (ρ : Env) : CO → Rs T
  | .ret t ts => .ok t (scatter ars ts ρ)
  | .exc e ts => .exc e (scatter ars ts ρ)
  | .bad => .bad
def callK (cf : CF) (ars : List AR) : Option (List T × Env) → Rs T
  | none => .bad
  | some (ts, ρ1) => coK ars ρ1 (cf ts)
theorem ev_callAR (cf : CF) (ars : List AR) (ρ : Env) : callAR cf ars ρ = callK cf ars (gather ars ρ) := by
  unfold callAR callK coK
  cases gather ars ρ with
  | none => rfl
  | some p => obtain ⟨ts, ρ1⟩ := p; rfl
theorem ev_callK (cf : CF) (ars : List AR) (ts : List T) (ρ : Env) : callK cf ars (some (ts, ρ)) = coK ars ρ (cf ts) := rfl
theorem ev_coR (ars : List AR) (ρ : Env) (t : T) (ts : List T) : coK ars ρ (.ret t ts) = .ok t (scatter ars ts ρ) := rfl
theorem ev_coE (ars : List AR) (ρ : Env) (e : Ex) (ts : List T) : coK ars ρ (.exc e ts) = .exc e (scatter ars ts ρ) := rfl
theorem ga_nil (ρ : Env) : gather [] ρ = some ([], ρ) := rfl
def gaK (t : T) : Option (List T × Env) → Option (List T × Env)
  | some (ts, ρ) => some (t :: ts, ρ)
  | none => none
theorem ga_v (t : T) (l : List AR) (ρ : Env) : gather (.v t :: l) ρ = gaK t (gather l ρ) := by
  rw [gather]
  cases gather l ρ with
  | none => rfl
  | some p => rfl
def gaI (j : Nat) (l : List AR) (ρ : Env) : Option (Option T) → Option (List T × Env)
  | some (some t) => gaK t (gather l (ρ.set j none))
  | _ => none
theorem ga_i (j : Nat) (l : List AR) (ρ : Env) : gather (.i j :: l) ρ = gaI j l ρ ρ[j]? := by
  rw [gather]
  unfold gaI
  cases ρ[j]? with
  | none => rfl
  | some x =>
    cases x with
    | none => rfl
    | some t =>
      dsimp only
      cases gather l (ρ.set j none) with
      | none => rfl
      | some p => rfl
theorem ga_iK (j : Nat) (l : List AR) (ρ : Env) (t : T) : gaI j l ρ (some (some t)) = gaK t (gather l (ρ.set j none)) := rfl
theorem ga_K (t : T) (ts : List T) (ρ : Env) : gaK t (some (ts, ρ)) = some (t :: ts, ρ) := rfl
theorem sc_nil (ts : List T) (ρ : Env) : scatter [] ts ρ = ρ := by cases ts <;> rfl
theorem sc_v (t u : T) (l : List AR) (ts : List T) (ρ : Env) : scatter (.v t :: l) (u :: ts) ρ = scatter l ts ρ := rfl
theorem sc_i (j : Nat) (u : T) (l : List AR) (ts : List T) (ρ : Env) : scatter (.i j :: l) (u :: ts) ρ = scatter l ts (ρ.set j (some u)) := rfl
/-! statements -/
def seqK (g : FS) : SO → SO
  | .nx ρ => g ρ
  | o => o
theorem ev_seq (f g : FS) (ρ : Env) : sSeq f g ρ = seqK g (f ρ) := by
  unfold sSeq seqK
  cases f ρ <;> rfl
theorem ev_seqN (g : FS) (ρ : Env) : seqK g (.nx ρ) = g ρ := rfl
theorem ev_seqR (g : FS) (t : T) (ρ : Env) : seqK g (.ret t ρ) = .ret t ρ := rfl
theorem ev_seqE (g : FS) (e : Ex) (ρ : Env) : seqK g (.exc e ρ) = .exc e ρ := rfl
theorem ev_next (ρ : Env) : sNext ρ = .nx ρ := rfl
/-- an expression's end within a statement -/
def sbK {α : Type} (k : α → FS) : Rs α → SO
  | .ok a ρ => k a ρ
  | .exc e ρ => .exc e ρ
  | .bad => .bad
theorem sb_ok {α : Type} (k : α → FS) (a : α) (ρ : Env) : sbK k (.ok a ρ) = k a ρ := rfl
theorem sb_exc {α : Type} (k : α → FS) (e : Ex) (ρ : Env) : sbK k (.exc e ρ : Rs α) = .exc e ρ := rfl
theorem ev_sb {α : Type} (f : M α) (k : α → FS) (ρ : Env) : sBind f k ρ = sbK k (f ρ) := by
  unfold sBind sbK
  cases f ρ <;> rfl
def retK (t : T) : FS := fun ρ => .ret t ρ
theorem ev_sret (fe : M T) (ρ : Env) : sRet fe ρ = sbK retK (fe ρ) := ev_sb fe _ ρ
theorem ev_retK (t : T) (ρ : Env) : retK t ρ = .ret t ρ := rfl
def nxK (_ : T) : FS := fun ρ => .nx ρ
theorem ev_expr (fe : M T) (ρ : Env) : sExpr fe ρ = sbK nxK (fe ρ) := ev_sb fe _ ρ
theorem ev_nxK (t : T) (ρ : Env) : nxK t ρ = .nx ρ := rfl
def sifK (f g : FS) (b : Bool) : FS := if b then f else g
theorem ev_sif (fc : M Bool) (f g : FS) (ρ : Env) : sIf fc f g ρ = sbK (sifK f g) (fc ρ) := ev_sb fc _ ρ
theorem ev_sifT (f g : FS) (ρ : Env) : sifK f g true ρ = f ρ := rfl
theorem ev_sifF (f g : FS) (ρ : Env) : sifK f g false ρ = g ρ := rfl
def guK : Rs Unit → SO
  | .ok _ ρ => .nx ρ
  | _ => .bad
theorem ev_gu (u : Unit) (ρ : Env) : guK (.ok u ρ) = .nx ρ := rfl
def asgK (g : FG) (t : T) : FS := fun ρ => guK (g t ρ)
theorem ev_asg (fe : M T) (g : FG) (ρ : Env) : sAsg fe g ρ = sbK (asgK g) (fe ρ) := by
  have : sAsg fe g = sBind fe (asgK g) := by
    unfold sAsg asgK guK
    rfl
  rw [this]
  exact ev_sb fe _ ρ
theorem ev_asgK (g : FG) (t : T) (ρ : Env) : asgK g t ρ = guK (g t ρ) := rfl
theorem ev_set (i : Nat) (t : T) (ρ : Env) : gSet i t ρ = .ok () (ρ.set i (some t)) := rfl
def parK (gs : FGs) (ts : List T) : FS := fun ρ => guK (gs ts ρ)
theorem ev_par (fl : M (List T)) (gs : FGs) (ρ : Env) : sPar fl gs ρ = sbK (parK gs) (fl ρ) := by
  have : sPar fl gs = sBind fl (parK gs) := by
    unfold sPar parK guK
    rfl
  rw [this]
  exact ev_sb fl _ ρ
theorem ev_parK (gs : FGs) (ts : List T) (ρ : Env) : parK gs ts ρ = guK (gs ts ρ) := rfl
def gcK (gs : FGs) (ts : List T) : Rs Unit → Rs Unit
  | .ok _ ρ => gs ts ρ
  | _ => .bad
theorem ev_gcK (gs : FGs) (ts : List T) (u : Unit) (ρ : Env) : gcK gs ts (.ok u ρ) = gs ts ρ := rfl
theorem ev_gc (g : FG) (gs : FGs) (t : T) (ts : List T) (ρ : Env) : gsCons g gs (t :: ts) ρ = gcK gs ts (g t ρ) := by
  unfold gsCons gcK
  dsimp only
  all_goals (cases g t ρ <;> rfl)
theorem ev_gn (ρ : Env) : gsNil [] ρ = .ok () ρ := rfl
theorem ev_gtup (n : Nat) (gs : FGs) (xs : List T) (ρ : Env) (h : xs.length = n) : gTupT n gs (.nd .tup xs) ρ = gs xs ρ := by
  show (if xs.length = n then gs xs else fun _ => .bad) ρ = _
  rw [if_pos h]
def gixK (g : Env → Option T) (t : T) (ip : Nat × List Nat) (ρ : Env) : Rs Unit := match g ρ with
  | some k => match atomV k with
    | some _ => chgPl (setIx k t) ip ρ
    | none => .bad
  | none => .bad
theorem ev_gix (g : Env → Option T) (fp : M (Nat × List Nat)) (t : T) (ρ : Env) : gIx g fp t ρ = (fp ρ).bind (gixK g t) := rfl
theorem ev_gixK (g : Env → Option T) (t : T) (ip : Nat × List Nat) (ρ : Env) : gixK g t ip ρ = match g ρ with
  | some k => match atomV k with
    | some _ => chgPl (setIx k t) ip ρ
    | none => .bad
  | none => .bad := rfl
def chK (u : T → Option T) (i : Nat) (p : List Nat) (ρ : Env) : Option (Option T) → Rs Unit
  | some (some r) => match r.get p with
    | some l => match u l with
      | some l' => if r.pown p then .ok () (ρ.set i (some (r.set p l'))) else .bad
      | none => .bad
    | none => .bad
  | _ => .bad
theorem ev_chg (u : T → Option T) (i : Nat) (p : List Nat) (ρ : Env) : chgPl u (i, p) ρ = chK u i p ρ ρ[i]? := rfl
theorem ev_chK (u : T → Option T) (i : Nat) (p : List Nat) (ρ : Env) (r : T) : chK u i p ρ (some (some r)) = match r.get p with
    | some l => match u l with
      | some l' => if r.pown p then .ok () (ρ.set i (some (r.set p l'))) else .bad
      | none => .bad
    | none => .bad := rfl
def mvK (i : Nat) (ρ : Env) : Option (Option T) → Rs T
  | some (some t) => .ok t (ρ.set i none)
  | _ => .bad
theorem ev_mv (i : Nat) (ρ : Env) : fMv i ρ = mvK i ρ ρ[i]? := rfl
theorem ev_mvK (i : Nat) (ρ : Env) (t : T) : mvK i ρ (some (some t)) = .ok t (ρ.set i none) := rfl
/-! lengths, empty lists, slices, displays -/
def lenBK (ip : Nat × List Nat) (ρ : Env) : Rs T := match ρ[ip.1]? with
  | some (some r) => match r.get ip.2 with
    | some l => match gLen l with
      | some b => .ok b ρ
      | none => .bad
    | none => .bad
  | _ => .bad
def lbK (p : List Nat) (ρ : Env) : Option (Option T) → Rs T
  | some (some r) => match r.get p with
    | some l => match gLen l with
      | some b => .ok b ρ
      | none => .bad
    | none => .bad
  | _ => .bad
theorem ev_lenB (fp : M (Nat × List Nat)) (ρ : Env) : fLenB fp ρ = (fp ρ).bind lenBK := rfl
theorem ev_lenBK (i : Nat) (p : List Nat) (ρ : Env) : lenBK (i, p) ρ = lbK p ρ ρ[i]? := rfl
theorem ev_lbK (p : List Nat) (ρ : Env) (r : T) : lbK p ρ (some (some r)) = match r.get p with
    | some l => match gLen l with
      | some b => .ok b ρ
      | none => .bad
    | none => .bad := rfl
def empK (neg : Bool) (ip : Nat × List Nat) : M Bool := plU (isEmp neg) ip
def epK (neg : Bool) (p : List Nat) (ρ : Env) : Option (Option T) → Rs Bool
  | some (some r) => match r.get p with
    | some l => match isEmp neg l with
      | some b => .ok b ρ
      | none => .bad
    | none => .bad
  | _ => .bad
theorem ev_emp (neg : Bool) (fp : M (Nat × List Nat)) (ρ : Env) : cEmp neg fp ρ = (fp ρ).bind (empK neg) := rfl
theorem ev_empK (neg : Bool) (i : Nat) (p : List Nat) (ρ : Env) : empK neg (i, p) ρ = epK neg p ρ ρ[i]? := rfl
theorem ev_epK (neg : Bool) (p : List Nat) (ρ : Env) (r : T) : epK neg p ρ (some (some r)) = match r.get p with
    | some l => match isEmp neg l with
      | some b => .ok b ρ
      | none => .bad
    | none => .bad := rfl
def slK2 (t : T) (l : Option Int) (h : Option Int) (ρ : Env) : Rs T := lift (gSl t l h) ρ
def slK1 (fh : M (Option Int)) (t : T) (l : Option Int) (ρ : Env) : Rs T := (fh ρ).bind (slK2 t l)
def slK0 (fl fh : M (Option Int)) (t : T) (ρ : Env) : Rs T := (fl ρ).bind (slK1 fh t)
theorem ev_sl (ga : M T) (fl fh : M (Option Int)) (ρ : Env) : fSl ga fl fh ρ = (ga ρ).bind (slK0 fl fh) := rfl
theorem ev_slK0 (fl fh : M (Option Int)) (t : T) (ρ : Env) : slK0 fl fh t ρ = (fl ρ).bind (slK1 fh t) := rfl
theorem ev_slK1 (fh : M (Option Int)) (t : T) (l : Option Int) (ρ : Env) : slK1 fh t l ρ = (fh ρ).bind (slK2 t l) := rfl
theorem ev_slK2 (t : T) (l h : Option Int) (ρ : Env) : slK2 t l h ρ = lift (gSl t l h) ρ := rfl
def pIK (t : T) (ρ : Env) : Rs (Option Int) := match t with
  | .int i => .ok (some i) ρ
  | _ => .bad
theorem ev_pI (ga : M T) (ρ : Env) : pInt ga ρ = (ga ρ).bind pIK := by
  unfold pInt
  show (ga ρ).bind _ = _
  congr 1
  funext t ρ'
  cases t <;> rfl
theorem ev_pIK (i : Int) (ρ : Env) : pIK (.int i) ρ = .ok (some i) ρ := rfl
theorem ev_pnil (ρ : Env) : fPNil ρ = .ok [] ρ := rfl
def pcK3 (k v : T) (xs : List (Key × T)) (ρ : Env) : Rs (List (Key × T)) := match keyT k with
  | some kk => .ok ((kk, v) :: xs) ρ
  | none => .bad
/-! a def -/
def outK (pr : List Bool) : SO → CO
  | .nx ρ => .ret .non (outs pr ρ)
  | .ret t ρ => .ret t (outs pr ρ)
  | .exc e ρ => .exc e (outs pr ρ)
  | _ => .bad
theorem ev_outN (pr : List Bool) (ρ : Env) : outK pr (.nx ρ) = .ret .non (outs pr ρ) := rfl
theorem ev_outR (pr : List Bool) (t : T) (ρ : Env) : outK pr (.ret t ρ) = .ret t (outs pr ρ) := rfl
theorem ev_outE (pr : List Bool) (e : Ex) (ρ : Env) : outK pr (.exc e ρ) = .exc e (outs pr ρ) := rfl
theorem run_ev {pr : List Bool} {N : Nat} {b : FS} {ts : List T} {ρ0 : Env} (h : ts.length = pr.length) (e : ts.map some ++ List.replicate (N - ts.length) none = ρ0) : runF pr N b ts = outK pr (b ρ0) := by
  unfold runF
  rw [if_pos h, e]
  cases b ρ0 <;> rfl
theorem ou_nil (ρ : Env) : outs [] ρ = [] := rfl
theorem ou_cons (b : Bool) (bs : List Bool) (x : Option T) (ρ : Env) : outs (b :: bs) (x :: ρ) = (if b then x.getD .hole else .hole) :: outs bs ρ := rfl
theorem get_nil (x : T) : x.get [] = some x := by cases x <;> rfl
theorem get_one (k : NK) (xs : List T) (i : Nat) : (T.nd k xs).get [i] = xs[i]? := by
  show (xs[i]?).bind (fun y => T.get y []) = _
  cases xs[i]? with
  | none => rfl
  | some y => exact get_nil y
theorem set_nil (x y : T) : x.set [] y = y := by cases x <;> rfl
theorem set_one (k : NK) (xs : List T) (i : Nat) (y : T) : (T.nd k xs).set [i] y = .nd k (xs.set i y) := by
  show (match xs[i]? with
    | some x => T.nd k (xs.set i (T.set x [] y))
    | none => T.nd k xs) = _
  cases h : xs[i]? with
  | none => rw [List.set_eq_of_length_le (by simpa using h)]
  | some z => show T.nd k (xs.set i (T.set z [] y)) = _; rw [set_nil]
theorem pown_nil (x : T) : x.pown [] = true := by cases x <;> rfl
theorem pown_one (k : NK) (xs : List T) (i : Nat) : (T.nd k xs).pown [i] = (k.m && (xs[i]?).isSome) := by
  show (k.m && match xs[i]? with
    | some y => T.pown y []
    | none => false) = _
  cases xs[i]? with
  | none => rfl
  | some y => cases y <;> rfl
end Tr
end

section
set_option Elab.async false
set_option linter.all false
set_option autoImplicit false
set_option maxRecDepth 100000
/-! Plain facts of lists of ints on trees. -/
namespace Tr
open PySem PySem.Spec PyProof.Rows L2
theorem fzL_ints (ns : List Int) : T.fzL (ns.map T.int) = ns.map T.int := by
  induction ns with
  | nil => rfl
  | cons n ns ih => rw [List.map_cons, T.fzL, ih]; rfl
theorem pdL_ints (ns : List Int) : pdL (ns.map T.int) = some (ns.map PyData.int) := by
  induction ns with
  | nil => rfl
  | cons n ns ih => rw [List.map_cons, pdL, ih]; rfl
theorem lay_ints (ns : List Int) : PyData.canLayAll0 (ns.map PyData.int) = true := by
  induction ns with
  | nil => rfl
  | cons n ns ih => rw [List.map_cons, PyData.canLayAll0, ih]; rfl
theorem dep_ints (ns : List Int) : PyData.depthAll (ns.map PyData.int) ≤ 0 := by
  induction ns with
  | nil => exact Nat.le_refl _
  | cons n ns ih => rw [List.map_cons]; unfold PyData.depthAll; simp [PyData.depth]; omega
theorem shp {ds : List PyData} (h1 : PyData.canLayAll0 ds = true) (h2 : PyData.depthAll ds ≤ 63) : SeqAt.shaped (.list ds) = true := by
  unfold SeqAt.shaped
  rw [PyData.canLay0, h1, PyData.depth]
  simp; omega
theorem eqv_nil (ds : List PyData) : PyData.eqv (.list ds) (.list []) = ds.isEmpty := by
  rw [PyData.eqv]
  cases ds <;> rfl
theorem emp_of {m m' : Bool} {xs : List T} {ds : List PyData} (h : pdL xs = some ds) (h1 : PyData.canLayAll0 ds = true) (h2 : PyData.depthAll ds ≤ 63) : gEq (.nd (.lst m) xs) (.nd (.lst m') []) = some ds.isEmpty := by
  unfold gEq
  rw [pd, h, pd, pdL]
  dsimp only
  rw [shp h1 h2, show SeqAt.shaped (.list []) = true from shp rfl (Nat.zero_le _), eqv_nil]
  rfl
theorem emp_ints (neg m : Bool) (ns : List Int) : isEmp neg (.nd (.lst m) (ns.map T.int)) = some (if neg then !ns.isEmpty else ns.isEmpty) := by
  unfold isEmp
  rw [emp_of (pdL_ints ns) (lay_ints ns) (by have := dep_ints ns; omega)]
  rw [List.isEmpty_map]
  rfl
theorem eq_int (a b : Int) : gEq (.int a) (.int b) = some (a == b) := by
  unfold gEq
  rw [pd, pd]
  rfl
theorem eq_bl (a b : Bool) : gEq (.bl a) (.bl b) = some (a == b) := by
  unfold gEq
  rw [pd, pd]
  rfl
theorem ixN_of {n : Nat} {i : Int} (h0 : 0 ≤ i) (h1 : i < n) : ixN n i = some i.toNat := by
  unfold ixN
  rw [if_pos h0, if_pos h1]
theorem ix_ints {k : NK} (hk : (∃ m, k = .lst m) ∨ k = .tup) {ns : List Int} {i : Int} (h0 : 0 ≤ i) (h1 : i < ns.length) : gIxT (.nd k (ns.map T.int)) (.int i) = some (.int (ns.getD i.toNat 0)) := by
  have e : posIx (.nd k (ns.map T.int)) (.int i) = some i.toNat := by
    have hl : (ns.map T.int).length = ns.length := List.length_map ..
    rcases hk with ⟨m, rfl⟩ | rfl
    · show ixN (ns.map T.int).length i = _
      rw [hl, ixN_of h0 h1]
    · show ixN (ns.map T.int).length i = _
      rw [hl, ixN_of h0 h1]
  show (posIx (.nd k (ns.map T.int)) (.int i)).bind (fun j => (ns.map T.int)[j]?) = _
  rw [e]
  show (ns.map T.int)[i.toNat]? = _
  have hlt : i.toNat < ns.length := by omega
  rw [List.getElem?_map, List.getElem?_eq_getElem hlt, List.getD_eq_getElem?_getD, List.getElem?_eq_getElem hlt]
  rfl
end Tr
end

section
set_option Elab.async false
set_option linter.all false
set_option autoImplicit false
set_option maxRecDepth 100000
/-! Loops and comprehensions by invariants. -/
namespace Tr
open PySem PySem.Spec PyProof.Rows L2
theorem for_step {g : FG} {body : FS} {t : T} {ts : List T} {ρ ρ1 ρ2 : Env} (e1 : g t ρ = .ok () ρ1) (e2 : body ρ1 = .nx ρ2) : sForGo g body (t :: ts) ρ = sForGo g body ts ρ2 := by
  show (match g t ρ with
    | .ok _ ρ1 => match body ρ1 with
      | .nx ρ2 => sForGo g body ts ρ2
      | .ct ρ2 => sForGo g body ts ρ2
      | .brk ρ2 => .nx ρ2
      | o => o
    | _ => .bad) = _
  rw [e1]
  dsimp only
  rw [e2]
theorem for_stepR {g : FG} {body : FS} {t u : T} {ts : List T} {ρ ρ1 ρ2 : Env} (e1 : g t ρ = .ok () ρ1) (e2 : body ρ1 = .ret u ρ2) : sForGo g body (t :: ts) ρ = .ret u ρ2 := by
  show (match g t ρ with
    | .ok _ ρ1 => match body ρ1 with
      | .nx ρ2 => sForGo g body ts ρ2
      | .ct ρ2 => sForGo g body ts ρ2
      | .brk ρ2 => .nx ρ2
      | o => o
    | _ => .bad) = _
  rw [e1]
  dsimp only
  rw [e2]
theorem for_gen {g : FG} {body : FS} {Inv : Nat → Env → Prop} {Pr : T → Env → Prop} : ∀ (items : List T) (i : Nat) (ρ : Env), Inv i ρ →
    (∀ j t ρ, items[j]? = some t → Inv (i + j) ρ → ∃ ρ1, g t ρ = .ok () ρ1 ∧ ((∃ ρ2, body ρ1 = .nx ρ2 ∧ Inv (i + j + 1) ρ2) ∨ ∃ t ρ2, body ρ1 = .ret t ρ2 ∧ Pr t ρ2)) →
    (∃ ρ', sForGo g body items ρ = .nx ρ' ∧ Inv (i + items.length) ρ') ∨ ∃ t ρ', sForGo g body items ρ = .ret t ρ' ∧ Pr t ρ'
  | [], i, ρ, h, _ => .inl ⟨ρ, rfl, h⟩
  | t :: ts, i, ρ, h, hs => by
    obtain ⟨ρ1, e1, h2⟩ := hs 0 t ρ rfl h
    rcases h2 with ⟨ρ2, e2, h3⟩ | ⟨u, ρ2, e2, h3⟩
    · have ih := for_gen (g := g) (body := body) (Inv := Inv) (Pr := Pr) ts (i + 1) ρ2 h3 fun j t' ρ' ht hi => by
        have hi' : Inv (i + (j + 1)) ρ' := by rw [show i + (j + 1) = i + 1 + j by omega]; exact hi
        have := hs (j + 1) t' ρ' (by simpa using ht) hi'
        rw [show i + (j + 1) + 1 = i + 1 + j + 1 by omega] at this
        exact this
      rw [for_step e1 e2]
      rw [show i + (t :: ts).length = i + 1 + ts.length by rw [List.length_cons]; omega]
      exact ih
    · exact .inr ⟨u, ρ2, for_stepR e1 e2, h3⟩
theorem for_inv {g : FG} {body : FS} {Inv : Nat → Env → Prop} (items : List T) (ρ : Env) (h : Inv 0 ρ)
    (hs : ∀ j t ρ, items[j]? = some t → Inv j ρ → ∃ ρ1 ρ2, g t ρ = .ok () ρ1 ∧ body ρ1 = .nx ρ2 ∧ Inv (j + 1) ρ2) : ∃ ρ', sForGo g body items ρ = .nx ρ' ∧ Inv items.length ρ' := by
  have := for_gen (g := g) (body := body) (Inv := Inv) (Pr := fun _ _ => False) items 0 ρ h fun j t ρ ht hi => by
    rw [Nat.zero_add] at hi ⊢
    obtain ⟨ρ1, ρ2, a, b, c⟩ := hs j t ρ ht hi
    exact ⟨ρ1, a, .inl ⟨ρ2, b, c⟩⟩
  rcases this with ⟨ρ', a, b⟩ | ⟨_, _, _, b⟩
  · exact ⟨ρ', a, by rw [Nat.zero_add] at b; exact b⟩
  · exact b.elim
theorem ev_for (fi : M (List T)) (g : FG) (body : FS) (ρ : Env) : sFor fi g body ρ = sbK (fun items => sForGo g body items) (fi ρ) := ev_sb fi _ ρ
theorem rng_get {n i : Nat} (h : i < n) : ((List.range n).map fun (i : Nat) => T.int (0 + (i : Int)))[i]? = some (.int (i : Int)) := by
  rw [List.getElem?_map, List.getElem?_range h]
  simp
theorem rng_some {n i : Nat} {t : T} (h : ((List.range n).map fun (i : Nat) => T.int (0 + (i : Int)))[i]? = some t) : i < n ∧ t = .int (i : Int) := by
  have hl : i < n := by
    have := (List.getElem?_eq_some_iff.mp h).1
    simpa using this
  rw [rng_get hl] at h
  exact ⟨hl, (Option.some.inj h).symm⟩
theorem rng_ok {n : Nat} (h : n < 4611686018427387904) : rngItems [.int (n : Nat)] = some ((List.range n).map fun (i : Nat) => T.int (0 + (i : Int))) := by
  unfold rngItems
  dsimp only
  have h1 : -(2 ^ 62 : Int) ≤ (n : Int) ∧ (n : Int) < 2 ^ 62 := by
    have e : (2 ^ 62 : Int) = 4611686018427387904 := by decide
    rw [e]
    omega
  rw [if_pos h1, Int.toNat_natCast]
/-- a comprehension by an invariant -/
theorem lc_step {g : FG} {tt : M Bool} {fe : M T} {vs : List Nat} {t v : T} {ts acc : List T} {ρ ρ1 ρ2 ρ3 : Env} (e1 : g t ρ = .ok () ρ1) (e2 : tt ρ1 = .ok true ρ2) (e3 : fe ρ2 = .ok v ρ3) (hl : acc.length < sizeLine) :
    lcGo g tt fe vs (t :: ts) acc ρ = lcGo g tt fe vs ts (acc ++ [v]) (wipeE ρ3 vs) := by
  show (match g t ρ with
    | .ok _ ρ1 => ((noX tt).bind fun b => if b then (noX fe).bind fun y => if acc.length < sizeLine then andWipe vs (lcGo g tt fe vs ts (acc ++ [y])) else fun _ => .bad else andWipe vs (lcGo g tt fe vs ts acc)) ρ1
    | _ => .bad) = _
  rw [e1]
  show ((noX tt) ρ1).bind _ = _
  rw [show (noX tt) ρ1 = .ok true ρ2 by unfold noX; rw [e2]]
  show ((noX fe) ρ2).bind _ = _
  rw [show (noX fe) ρ2 = .ok v ρ3 by unfold noX; rw [e3]]
  show (if acc.length < sizeLine then andWipe vs (lcGo g tt fe vs ts (acc ++ [v])) else fun _ => .bad) ρ3 = _
  rw [if_pos hl]
  rfl
theorem lc_skip {g : FG} {tt : M Bool} {fe : M T} {vs : List Nat} {t : T} {ts acc : List T} {ρ ρ1 ρ2 : Env} (e1 : g t ρ = .ok () ρ1) (e2 : tt ρ1 = .ok false ρ2) :
    lcGo g tt fe vs (t :: ts) acc ρ = lcGo g tt fe vs ts acc (wipeE ρ2 vs) := by
  show (match g t ρ with
    | .ok _ ρ1 => ((noX tt).bind fun b => if b then (noX fe).bind fun y => if acc.length < sizeLine then andWipe vs (lcGo g tt fe vs ts (acc ++ [y])) else fun _ => .bad else andWipe vs (lcGo g tt fe vs ts acc)) ρ1
    | _ => .bad) = _
  rw [e1]
  show ((noX tt) ρ1).bind _ = _
  rw [show (noX tt) ρ1 = .ok false ρ2 by unfold noX; rw [e2]]
  rfl
theorem lc_inv {g : FG} {tt : M Bool} {fe : M T} {vs : List Nat} {Inv : Nat → List T → Env → Prop} : ∀ (items : List T) (i : Nat) (acc : List T) (ρ : Env), Inv i acc ρ → i + items.length ≤ sizeLine → acc.length ≤ i →
    (∀ j t acc ρ, items[j]? = some t → Inv (i + j) acc ρ → ∃ ρ1, g t ρ = .ok () ρ1 ∧ ((∃ ρ2, tt ρ1 = .ok false ρ2 ∧ Inv (i + j + 1) acc (wipeE ρ2 vs)) ∨ ∃ ρ2 v ρ3, tt ρ1 = .ok true ρ2 ∧ fe ρ2 = .ok v ρ3 ∧ Inv (i + j + 1) (acc ++ [v]) (wipeE ρ3 vs))) →
    ∃ acc' ρ', lcGo g tt fe vs items acc ρ = .ok acc' ρ' ∧ Inv (i + items.length) acc' ρ'
  | [], i, acc, ρ, h, _, _, _ => ⟨acc, ρ, rfl, h⟩
  | t :: ts, i, acc, ρ, h, hz, hl, hs => by
    rw [List.length_cons] at hz
    obtain ⟨ρ1, e1, h2⟩ := hs 0 t acc ρ rfl h
    have next : ∀ acc2 ρ2, Inv (i + 1) acc2 ρ2 → acc2.length ≤ i + 1 → ∃ acc' ρ', lcGo g tt fe vs ts acc2 ρ2 = .ok acc' ρ' ∧ Inv (i + (t :: ts).length) acc' ρ' := fun acc2 ρ2 hi hl2 => by
      rw [show i + (t :: ts).length = i + 1 + ts.length by rw [List.length_cons]; omega]
      refine lc_inv ts (i + 1) acc2 ρ2 hi (by omega) hl2 fun j t' acc3 ρ3 ht hi3 => ?_
      have := hs (j + 1) t' acc3 ρ3 (by simpa using ht) (by rw [show i + (j + 1) = i + 1 + j by omega]; exact hi3)
      rw [show i + (j + 1) + 1 = i + 1 + j + 1 by omega] at this
      exact this
    rcases h2 with ⟨ρ2, e2, h3⟩ | ⟨ρ2, v, ρ3, e2, e3, h3⟩
    · obtain ⟨a, r, b1, b2⟩ := next acc _ h3 (by omega)
      exact ⟨a, r, by rw [lc_skip e1 e2]; exact b1, b2⟩
    · obtain ⟨a, r, b1, b2⟩ := next (acc ++ [v]) _ h3 (by rw [List.length_append]; simp; omega)
      exact ⟨a, r, by rw [lc_step e1 e2 e3 (by omega)]; exact b1, b2⟩
def lcE (acc : List T) (ρ : Env) : Rs T := .ok (.nd (.lst true) acc) ρ
def lcK (vs : List Nat) (g : FG) (tt : M Bool) (fe : M T) (items : List T) (ρ : Env) : Rs T := (lcGo g tt fe vs items [] (wipeE ρ vs)).bind lcE
theorem ev_lc (fi : M (List T)) (vs : List Nat) (g : FG) (tt : M Bool) (fe : M T) (ρ : Env) : fLc fi vs g tt fe ρ = (fi ρ).bind (lcK vs g tt fe) := rfl
theorem ev_lcK (vs : List Nat) (g : FG) (tt : M Bool) (fe : M T) (items : List T) (ρ : Env) : lcK vs g tt fe items ρ = (lcGo g tt fe vs items [] (wipeE ρ vs)).bind lcE := rfl
theorem ev_lcE (acc : List T) (ρ : Env) : lcE acc ρ = .ok (.nd (.lst true) acc) ρ := rfl
theorem ev_gtup2 (gs : FGs) (x y : T) (ρ : Env) : gTupT 2 gs (.nd .tup [x, y]) ρ = gs [x, y] ρ := rfl
theorem small62 {n : Nat} (h : n ≤ 100000) : n < 4611686018427387904 := Nat.lt_of_le_of_lt h (by decide)
end Tr
end

section
set_option Elab.async false
set_option linter.all false
set_option autoImplicit false
set_option maxRecDepth 100000
/-! An exception's __init__ with one field. -/
namespace Tr
open PySem PySem.Spec PyProof.Rows L2 NdefX
section
variable {P : Program} {w : World} {K : PySem.W.Frag} {mg : Str → Option Value} {base : Heap} {qual prm fld : Str} {st : Stmt} {C f : Addr} {fd : FuncData} {ar : Arg} {e : Expr} {p0 p1 p2 p3 p4 q1 q2 q3 q4 p5 p6 p7 p8 pe : Pos} {okv : V → Prop} {te : TE}
theorem init1_core (F : ExF P K qual st C f fd ["self", prm]) (SN : NScope ["self", prm, "__class__"] ["self", prm] ["__class__"] (C8.fnScope st))
    (hbody : C8.fnBody st = [.Expr (.Call (.Attribute (.Call (.Name "super" p0) [] [] p1) "__init__" p2) [e] [] p3) p4, .Assign [.Attribute (.Name "self" q1) fld q2] (.Name prm q3) q4])
    (hp : ((C8.fnArgs st).posonlyargs ++ (C8.fnArgs st).args).head? = some ar) (har : ar.arg = "self") (hks : (C8.fnScope st).names.lookup ("super" : Str) = some NameKind.globalImplicit)
    (htop : (P.main.scope.names.lookup ("super" : Str)).isSome = false) (hmg : mg "super" = none) (hev : ∀ cc cda L : Addr, SupEv (envF (sF st "__init__" qual cc cda) f L) e p0 p1 p2 p3)
    (hst : ∀ env : PySem.Env, starEach [e] env = [(false, eval e env)]) (hsw : ∀ env : PySem.Env, swapsWith (.Call (.Attribute (.Call (.Name "super" p0) [] [] p1) "__init__" p2) [e] [] p3) none p4.line env = pure false)
    (hsa : ∀ env : PySem.Env, swapsWith (.Name prm q3) (some (.Attribute (.Name "self" q1) fld q2)) q4.line env = pure false)
    (hd1 : (prm == ("__debug__" : Str)) = false) (hd2 : (prm == ("__classdict__" : Str)) = false)
    (hno : PySem.W.findIn K (.ref C) fld = some none)
    (he : ∀ (cc cda : Addr) (A : Around) (outer : List PySem.Env) (s : Shared) (H : Hp) (E : XK), PE (sX (L2.CX P w) P w K mg base ["self", prm, "__class__"] (sF st "__init__" qual cc cda) f A outer s H E) e te)
    (ht : ∀ (σ : L2.St) (H : Hp) (Q : V → Hp → Prop) (v : V), σ[1]? = some (some v) → okv v → (∀ w, Q w H) → te σ H Q) :
    FnOk P w K mg base (L2.CX P w) 1 f fd ["self", prm] (spI1 C fld okv) :=
  init_ok (N := ["self", prm, "__class__"]) F.S F.F SN hbody hp (by rw [har]; rfl) hks (by rw [har]; exact SN.par _ (by simp)) htop hmg (by rintro vs H Q E ⟨a, v, rfl, _⟩; rfl)
    hev hst hsw fun cc cda A outer s H vs Q E ⟨a, v, ev, ea, ov, q⟩ => by
      subst ev
      refine ⟨a, te, _, he cc cda A outer s H E, pss_cons (ps_ost (pe_var (i := 0) rfl (.inl (SN.par _ (by simp))) (by decide) (by decide)) (pe_var (i := 1) rfl (.inl (SN.par _ (by simp))) hd1 hd2) (hsa _)) pss_nil, rfl, ea, fun Qk hq => ?_⟩
      refine ht _ H _ v rfl ov fun w => ⟨rfl, ea, hq H ?_⟩
      refine ⟨v, rfl, .ref a, rfl, a, C, rfl, F.S.T, hno, .inl ⟨ea, fun dx n ne => ?_⟩⟩
      exact q dx n ne
variable {z z1 z2 : Str} {j j1 j2 : Nat}
/-- super().__init__('..'); self.f = x -/
theorem initC_ok (F : ExF P K qual st C f fd ["self", prm]) (SN : NScope ["self", prm, "__class__"] ["self", prm] ["__class__"] (C8.fnScope st))
    (hbody : C8.fnBody st = [.Expr (.Call (.Attribute (.Call (.Name "super" p0) [] [] p1) "__init__" p2) [.Constant (.str z) j pe] [] p3) p4, .Assign [.Attribute (.Name "self" q1) fld q2] (.Name prm q3) q4])
    (hp : ((C8.fnArgs st).posonlyargs ++ (C8.fnArgs st).args).head? = some ar) (har : ar.arg = "self") (hks : (C8.fnScope st).names.lookup ("super" : Str) = some NameKind.globalImplicit)
    (htop : (P.main.scope.names.lookup ("super" : Str)).isSome = false) (hmg : mg "super" = none) (hev : ∀ cc cda L : Addr, SupEv (envF (sF st "__init__" qual cc cda) f L) (.Constant (.str z) j pe) p0 p1 p2 p3)
    (hd1 : (prm == ("__debug__" : Str)) = false) (hd2 : (prm == ("__classdict__" : Str)) = false) (hno : PySem.W.findIn K (.ref C) fld = some none) :
    FnOk P w K mg base (L2.CX P w) 1 f fd ["self", prm] (spI1 C fld fun _ => True) :=
  init1_core (te := tC (.str z)) F SN hbody hp har hks htop hmg hev (fun env => rfl) (fun env => rfl) (fun env => rfl) hd1 hd2 hno (fun _ _ _ _ _ _ _ => pe_str) fun σ H Q v _ _ h => h _
def okInt (v : V) : Prop := ∃ i : Int, v = .int i ∧ i.natAbs.log2 < 1920
/-- super().__init__(f'..{x}..'); self.f = x -/
theorem initF_ok (F : ExF P K qual st C f fd ["self", prm]) (SN : NScope ["self", prm, "__class__"] ["self", prm] ["__class__"] (C8.fnScope st))
    (hbody : C8.fnBody st = [.Expr (.Call (.Attribute (.Call (.Name "super" p0) [] [] p1) "__init__" p2) [.JoinedStr [.Constant (.str z1) j1 p5, .FormattedValue (.Name prm p6) (-1) none p7, .Constant (.str z2) j2 p8] pe] [] p3) p4, .Assign [.Attribute (.Name "self" q1) fld q2] (.Name prm q3) q4])
    (hp : ((C8.fnArgs st).posonlyargs ++ (C8.fnArgs st).args).head? = some ar) (har : ar.arg = "self") (hks : (C8.fnScope st).names.lookup ("super" : Str) = some NameKind.globalImplicit)
    (htop : (P.main.scope.names.lookup ("super" : Str)).isSome = false) (hmg : mg "super" = none) (hev : ∀ cc cda L : Addr, SupEv (envF (sF st "__init__" qual cc cda) f L) (.JoinedStr [.Constant (.str z1) j1 p5, .FormattedValue (.Name prm p6) (-1) none p7, .Constant (.str z2) j2 p8] pe) p0 p1 p2 p3)
    (hd1 : (prm == ("__debug__" : Str)) = false) (hd2 : (prm == ("__classdict__" : Str)) = false) (hno : PySem.W.findIn K (.ref C) fld = some none) (hz1 : z1.length ≤ 1000) (hz2 : z2.length ≤ 1000) :
    FnOk P w K mg base (L2.CX P w) 1 f fd ["self", prm] (spI1 C fld okInt) :=
  init1_core (te := fun σ H Q => tJs [tC (.str z1), tFmt (tVar 1), tC (.str z2)] Str.empty σ H fun out H1 => Q (.str out) H1) F SN hbody hp har hks htop hmg hev (fun env => rfl) (fun env => rfl) (fun env => rfl) hd1 hd2 hno
    (fun cc cda A outer s H E => pe_joined (.cons pe_str (.cons (pe_fmt (pe_var (i := 1) rfl (.inl (SN.par _ (by simp))) hd1 hd2)) (.cons pe_str .nil)))) fun σ H Q v hv ov h => by
      obtain ⟨i, rfl, hi⟩ := ov
      have hl := PyProof.Rows.int_text_len_1921 hi
      have sz := sizeLine_eq
      have l0 : Str.empty.length = 0 := rfl
      have la := PySem.Str.length_append
      refine ⟨z1, rfl, ?_, .int i, hv, .inr ⟨i, rfl, hi, _, rfl, ?_, z2, rfl, ?_, h _⟩⟩
      · rw [la, l0, sz]; omega
      · rw [la, la, l0, sz]; omega
      · rw [la, la, la, l0, sz]; omega
end
end Tr

namespace Tr
open PySem PySem.Spec PyProof.Rows L2
section
variable {X : Cx} {c : Cu} {a b d : Expr} {pos : Pos} {fa fb fd : M T} {g g' : T → T → Option Bool} {op op' : CmpOp} {r r' : R2}
/-- a op b op' d, as a test -/
def cCh (g g' : T → T → Option Bool) (fa fb fd : M T) : M Bool := fa.bind fun x => fb.bind fun y => (lift (g x y)).bind fun k => if k = true then fd.bind fun z => lift (g' y z) else M.ret false
theorem sc_chain (ho : OpR X (compareOp op) r) (ho' : OpR X (compareOp op') r') (S : SimP (tab X c) r g) (S' : SimP (tab X c) r' g') (ha : SE X c a fa) (hb : SE X c b fb) (hd : SE X c d fd)
    (hm : lastMarks [op, op'] [b, d] = false := by with_unfolding_all rfl) : SC X c (.Compare a [op, op'] [b, d] pos) (cCh g g' fa fb fd) :=
  pt_imp (pt_chain ho ho' ha hb hd hm) fun σ H Q h => by
    obtain ⟨ρ, R, I, P⟩ := h
    refine se_then I P fun x H1 ρ1 I1 P1 => ?_
    refine se_then (R := x :: R) I1 P1.more fun y H2 ρ2 I2 P2 => ?_
    unfold M.bind at P2
    cases e : g (er x) (er y) with
    | none =>
      unfold lift at P2
      rw [e] at P2
      exact P2.elim
    | some k =>
      unfold lift at P2
      rw [e] at P2
      obtain ⟨ρA, eA, m, w⟩ := id I2
      have o := okL_append.mp w.ok
      refine S H2 x y k _ o.2.2.1 o.2.1 e ⟨k, rfl, ?_⟩
      cases k with
      | false => exact ⟨false, rfl, P2 H2 I2.drop.drop⟩
      | true =>
        have P4 : Post X c σ (x :: R) (KT X c σ R Q) ((fd.bind fun z => lift (g' (er y) z)) ρ2) := P2
        refine se_then (R := y :: x :: R) I2 P4.more fun z H3 ρ3 I3 P3 => ?_
        obtain ⟨k, e, q⟩ := P3.lift
        obtain ⟨ρB, eB, mB, wB⟩ := id I3
        have o := okL_append.mp wB.ok
        exact S' H3 y z k _ o.2.2.1 o.2.1 e ⟨k, rfl, q H3 I3.drop.drop.drop⟩
def vCh (g g' : T → T → Option Bool) (fa fb fd : M T) : M T := fa.bind fun x => fb.bind fun y => (lift (g x y)).bind fun k => if k = true then fd.bind fun z => lift ((g' y z).map T.bl) else M.ret (.bl false)
theorem se_chain (ho : OpR X (compareOp op) r) (ho' : OpR X (compareOp op') r') (S : SimP (tab X c) r g) (S' : SimP (tab X c) r' g') (ha : SE X c a fa) (hb : SE X c b fb) (hd : SE X c d fd)
    (hm : lastMarks [op, op'] [b, d] = false := by with_unfolding_all rfl) : SE X c (.Compare a [op, op'] [b, d] pos) (vCh g g' fa fb fd) :=
  pe_imp (pe_chain ho ho' ha hb hd hm) fun σ H Q h => by
    obtain ⟨ρ, R, I, P⟩ := h
    refine se_then I P fun x H1 ρ1 I1 P1 => ?_
    refine se_then (R := x :: R) I1 P1.more fun y H2 ρ2 I2 P2 => ?_
    unfold M.bind at P2
    cases e : g (er x) (er y) with
    | none =>
      unfold lift at P2
      rw [e] at P2
      exact P2.elim
    | some k =>
      unfold lift at P2
      rw [e] at P2
      obtain ⟨ρA, eA, m, w⟩ := id I2
      have o := okL_append.mp w.ok
      refine S H2 x y k _ o.2.2.1 o.2.1 e ⟨k, rfl, ?_⟩
      cases k with
      | false => exact P2 (.bl false) H2 rfl ⟨ρA, eA, m, by
          have w3 : W (tab X c) H2 (y :: x :: (slots ρA ++ R)) := w.perm ((List.perm_middle (l₁ := slots ρA)).trans (List.Perm.cons _ List.perm_middle)).symm
          exact (w3.drop.drop.bl (b := false)).perm (List.perm_middle (l₁ := slots ρA))⟩
      | true =>
        have P4 : Post X c σ (x :: R) (KE X c σ R Q) ((fd.bind fun z => lift ((g' (er y) z).map T.bl)) ρ2) := P2
        refine se_then (R := y :: x :: R) I2 P4.more fun z H3 ρ3 I3 P3 => ?_
        obtain ⟨t, e, q⟩ := P3.lift
        cases e2 : g' (er y) (er z) with
        | none => rw [e2] at e; cases e
        | some k2 =>
          rw [e2] at e
          cases e
          obtain ⟨ρB, eB, mB, wB⟩ := id I3
          have o := okL_append.mp wB.ok
          have w3 : W (tab X c) H3 (z :: y :: x :: (slots ρB ++ R)) := wB.perm ((List.perm_middle (l₁ := slots ρB)).trans (List.Perm.cons _ ((List.perm_middle (l₁ := slots ρB)).trans (List.Perm.cons _ List.perm_middle)))).symm
          exact S' H3 y z k2 _ o.2.2.1 o.2.1 e2 (q (.bl k2) H3 rfl ⟨ρB, eB, mB, (w3.drop.drop.drop.bl (b := k2)).perm (List.perm_middle (l₁ := slots ρB))⟩)
end
end Tr
end

section
set_option Elab.async false
set_option linter.all false
set_option autoImplicit false
set_option maxRecDepth 100000

namespace Tr
open PySem PySem.Spec PyProof.Rows L2
section
variable {X : Cx} {c : Cu} {e : Expr} {es : List Expr} {f : M T} {fl : M (List T)} {p : Pos}
def starT : T → Option (List T)
  | .nd (.lst _) xs => some xs
  | .nd .tup xs => some xs
  | .nd .scr xs => some xs
  | _ => none
def fStar (f : M T) (fl : M (List T)) : M (List T) := f.bind fun x => (lift (starT x)).bind fun ys => fl.bind fun xs => M.ret (ys ++ xs)
theorem sl_star (ha : SE X c e f) (hr : SL X c es fl) (hs : starEach (.Starred e p :: es) X.env = (true, eval e X.env) :: starEach es X.env := by rfl) : SL X c (.Starred e p :: es) (fStar f fl) := pa_imp (StX.pa_star ha hr hs) fun σ H Q h => by
  obtain ⟨ρ, R, I, P⟩ := h
  refine se_then I P fun x H1 ρ1 I1 P1 => ?_
  unfold M.bind at P1
  cases e : starT (er x) with
  | none =>
    unfold lift at P1
    rw [e] at P1
    exact P1.elim
  | some ys =>
    unfold lift at P1
    rw [e] at P1
    obtain ⟨w, a, dx, zs, sq, ⟨k, rfl⟩, ez⟩ : ∃ w a dx zs, (SqT X.K H1 a (zs.map val) ∨ SqL X.K H1 a (zs.map val)) ∧ (∃ k, x = .nd k w a dx zs) ∧ erL zs = ys := by
      obtain ⟨ρA, eA, m, wA⟩ := id I1
      have ok := (okL_append.mp wA.ok).2.1
      unfold starT at e
      split at e <;> cases e
      all_goals
        rename_i eu
        obtain ⟨w, a, dx, zs, rfl, rfl⟩ := er_nd eu
        refine ⟨w, a, dx, zs, ?_, ⟨_, rfl⟩, rfl⟩
        first | exact .inr (sqL ok) | exact .inl (sqT ok) | exact .inr (sqS ok)
    refine ⟨a, zs.map val, rfl, sq, ?_⟩
    have I2 : SI X c σ H1 ρ1 (zs ++ R) := by
      obtain ⟨ρA, eA, m, wA⟩ := id I1
      have w2 : W (tab X c) H1 (.nd k w a dx zs :: (slots ρA ++ R)) := wA.perm (List.perm_middle (l₁ := slots ρA)).symm
      exact ⟨ρA, eA, m, (W.open w2).perm (by rw [← List.append_assoc, ← List.append_assoc]; exact List.perm_append_comm.append_right R)⟩
    have P4 : Post X c σ R (KL X c σ R Q) ((fl.bind fun xs => M.ret (ys ++ xs)) ρ1) := P1
    refine sl_then (R := zs ++ R) I2 P4.moreL fun xs H2 ρ2 I3 P2 => ?_
    rw [← List.map_append]
    refine P2 (zs ++ xs) H2 (by rw [← ez, erL_map, erL_map, erL_map, List.map_append]) ?_
    rw [List.append_assoc]
    exact I3.perm (by rw [← List.append_assoc, ← List.append_assoc]; exact List.perm_append_comm.append_right R)
end
end Tr
end

section
set_option Elab.async false
set_option linter.all false
set_option autoImplicit false
set_option maxRecDepth 100000
/-! isinstance(x, list), isinstance(x, tuple): answered where it is so. -/
namespace Tr
open PySem PySem.Spec PyProof.Rows L2
section
variable {X : Cx} {c : Cu} {e : Expr} {fe : M T} {p p2 pos : Pos} {y : Str} {Ty : String} {g : T → Option T}
def gIsL : T → Option T
  | .nd (.lst _) _ => some (.bl true)
  | .nd .scr _ => some (.bl true)
  | _ => none
def gIsTup : T → Option T
  | .nd .tup _ => some (.bl true)
  | _ => none
theorem tyx_L {K : PySem.W.Frag} {H : Hp} {a : Addr} {xs : List V} (h : SqL K H a xs) : TyX K H (.ref a) (.type "list") := by
  rcases h with (h | ⟨o, h⟩) | ⟨o, its, n, h1, h2, _⟩
  · exact .base (.lst h)
  · exact .base (.frz h)
  · exact .kList h1 h2
theorem tyx_T {K : PySem.W.Frag} {H : Hp} {a : Addr} {xs : List V} (h : SqT K H a xs) : TyX K H (.ref a) (.type "tuple") := by
  rcases h with (h | ⟨o, h⟩) | ⟨o, its, n, h1, h2, _⟩
  · exact .base (.tup h)
  · exact .fTuple h
  · exact .kTuple h1 h2
theorem isL_ok {B : Tab} (H : Hp) (x : A) (t : T) (ok : Ok B H x) (h : gIsL (er x) = some t) : t = .bl true ∧ TyX B.K H (val x) (.type "list") := by
  unfold gIsL at h
  split at h <;> cases h
  all_goals
    rename_i eu
    obtain ⟨w, a, dx, zs, rfl, _⟩ := er_nd eu
    refine ⟨rfl, ?_⟩
    first | exact tyx_L (sqL ok) | exact tyx_L (sqS ok)
theorem isT_ok {B : Tab} (H : Hp) (x : A) (t : T) (ok : Ok B H x) (h : gIsTup (er x) = some t) : t = .bl true ∧ TyX B.K H (val x) (.type "tuple") := by
  unfold gIsTup at h
  split at h <;> cases h
  rename_i eu
  obtain ⟨w, a, dx, zs, rfl, _⟩ := er_nd eu
  exact ⟨rfl, tyx_T (sqT ok)⟩
theorem se_isTy (hT : ∀ (H : Hp) (x : A) (t : T), Ok (tab X c) H x → g (er x) = some t → t = .bl true ∧ TyX X.K H (val x) (.type Ty)) (hk : PySem.W.kitOne X.K (.type Ty) (.type Ty) = some true) (hi : X.mg "isinstance" = none) (hm : X.mg y = none) (hbt : bootBuiltins y = some (.type Ty)) (he : SE X c e fe)
    (hg : Gl X "isinstance" := by rfl) (hgy : Gl X y := by rfl) (hyd : (y == ("__debug__" : Str)) = false := by decide) (hyn : y ≠ "__name__" := by decide)
    (h1 : starEach [e, .Name y p2] X.env = (false, eval e X.env) :: starEach [.Name y p2] X.env := by rfl) (h2 : starEach [.Name y p2] X.env = (false, eval (.Name y p2) X.env) :: starEach [] X.env := by rfl) (hpl : (backTo pos (starEach [.Name y p2] X.env)).any (·.1) = false := by rfl) :
    SE X c (.Call (.Name "isinstance" p) [e, .Name y p2] [] pos) (f1 g fe) :=
  pe_imp (pe_callB call_isi hg hi (by first | rfl | boot_by_name | kernel_rfl) (pa_cons he (pa_cons (pe_bltn (v := .ty Ty) hgy hm hbt rfl hyn hyd) pa_nil h2) h1) (by decide) (by decide) h1 hpl) fun σ H Q h => by
    obtain ⟨ρ, R, I, P⟩ := h
    refine se_then I P fun x H1 ρ1 I1 P1 => ?_
    obtain ⟨t, e1, q⟩ := P1.lift
    obtain ⟨ρA, eA, m, w⟩ := id I1
    obtain ⟨rfl, ty⟩ := hT H1 x t (okL_append.mp w.ok).2.1 e1
    have w2 : W (tab X c) H1 (x :: (slots ρA ++ R)) := w.perm (List.perm_middle (l₁ := slots ρA)).symm
    exact ⟨val x, .ty Ty, .type Ty, .type Ty, true, rfl, .ty _, ty, hk, q (.bl true) H1 rfl ⟨ρA, eA, m, (w2.drop.bl (b := true)).perm (List.perm_middle (l₁ := slots ρA))⟩⟩
end
end Tr
end

section
set_option Elab.async false
set_option linter.all false
set_option autoImplicit false
set_option maxRecDepth 100000
/-! Lending: an expression reads what stands in the slots, and nothing of it stays behind. -/
namespace Tr
open PySem PySem.Spec PyProof.Rows L2
/-- no frozen node that might be changed -/
def immN : NK → Bool
  | .tup => true
  | .scr => true
  | .exc _ _ _ => true
  | .err _ _ => true
  | k => k.m
mutual
def noMut : T → Bool
  | .nd k xs => immN k && noMutL xs
  | _ => true
def noMutL : List T → Bool
  | [] => true
  | x :: xs => noMut x && noMutL xs
end
/-- the heap's object may be changed -/
def mutO : HO → Prop
  | .lst _ => True
  | .dK _ => True
  | .ins _ _ _ => True
  | _ => False
section
variable {B : Tab} {H H' H0 : Hp} {R S : List A} {x r : A}
theorem NodeOk.thaw {k : NK} {w : Bool} {a dx : Addr} {vs : List V} (h : NodeOk B H k.fz w a dx vs) : NodeOk B H k w a dx vs := by
  cases k with
  | tup => exact h
  | scr => exact h
  | lst m => exact h
  | dct m ks => exact h
  | obj m c ns => exact h
  | exc c dd ns => exact h
  | err c ns => exact h
mutual
theorem ok_thaw : ∀ {x : A}, Ok B H x → Ok B H' (fz x) → Ok B H' x
  | .non, _, _ => trivial
  | .bl _, _, _ => trivial
  | .int _, _, _ => trivial
  | .str _, _, _ => trivial
  | .cst _, _, _ => trivial
  | .hole _, _, _ => trivial
  | .nd k w a dx xs, h, h' => by
    by_cases hm : k.m = true
    · rw [fz, if_pos hm] at h'
      obtain ⟨h1, h2, h3⟩ := h'
      rw [mval_fzL] at h1
      exact ⟨h1.thaw, okL_thaw h.2.1 h2, h.2.2⟩
    · rw [fz, if_neg hm] at h'
      exact h'
theorem okL_thaw : ∀ {xs : List A}, OkL B H xs → OkL B H' (fzL xs) → OkL B H' xs
  | [], _, _ => trivial
  | x :: xs, h, h' => ⟨ok_thaw h.1 h'.1, okL_thaw h.2 h'.2⟩
end
theorem nodeOwnMut {k : NK} {w : Bool} {a dx : Addr} {vs : List V} (h : NodeOk B H k w a dx vs) {b : Addr} (hb : b ∈ ownN k w a) : ∃ o, H b = some o ∧ mutO o := by
  cases k with
  | tup => simp [ownN, NK.m] at hb
  | scr => simp [ownN, NK.m] at hb
  | lst m =>
    obtain ⟨rfl, h⟩ := h
    cases m with
    | true => simp [ownN, NK.m] at hb; subst hb; exact ⟨_, h, trivial⟩
    | false => simp [ownN, NK.m] at hb
  | dct m ks =>
    obtain ⟨rfl, _, _, h⟩ := h
    cases m with
    | true => simp [ownN, NK.m] at hb; subst hb; exact ⟨_, h, trivial⟩
    | false => simp [ownN, NK.m] at hb
  | obj m c ns =>
    obtain ⟨rfl, _, _, _, h⟩ := h
    cases m with
    | true => simp [ownN, NK.m] at hb; subst hb; exact ⟨_, h, trivial⟩
    | false => simp [ownN, NK.m] at hb
  | exc c dd ns => simp [ownN, NK.m] at hb
  | err c ns => simp [ownN, NK.m] at hb
theorem nodeFrzImm {k : NK} {w : Bool} {a dx : Addr} {vs : List V} (h : NodeOk B H k w a dx vs) (hi : immN k = true) {b : Addr} (hb : b ∈ frzN k w a dx) : ∃ o, H b = some o ∧ ¬ mutO o := by
  cases k with
  | tup =>
    cases w with
    | true => simp [frzN, NK.m] at hb
    | false => simp [frzN, NK.m] at hb; subst hb; exact ⟨_, h, fun z => z⟩
  | scr =>
    cases w with
    | true => simp [frzN, NK.m] at hb
    | false => obtain ⟨o, h⟩ := h; simp [frzN, NK.m] at hb; subst hb; exact ⟨_, h, fun z => z⟩
  | lst m => cases (show m = true from hi); simp [frzN, NK.m] at hb
  | dct m ks => cases (show m = true from hi); simp [frzN, NK.m] at hb
  | obj m c ns => cases (show m = true from hi); simp [frzN, NK.m] at hb
  | exc c dd ns =>
    obtain ⟨rfl, _, _, _, h⟩ := h
    simp [frzN, NK.m] at hb; subst hb; exact ⟨_, h, fun z => z⟩
  | err c ns =>
    obtain ⟨rfl, _, h⟩ := h
    simp [frzN, NK.m] at hb
    rcases h with ⟨_, rfl, h⟩ | ⟨h1, h2⟩
    · rcases hb with rfl | rfl <;> exact ⟨_, h, fun z => z⟩
    · rcases hb with rfl | rfl
      · exact ⟨_, h1, fun z => z⟩
      · exact ⟨_, h2, fun z => z⟩
mutual
theorem own_mut : ∀ {x : A}, Ok B H x → ∀ {b}, b ∈ own x → ∃ o, H b = some o ∧ mutO o
  | .non, _, _, hb => by simp [own] at hb
  | .bl _, _, _, hb => by simp [own] at hb
  | .int _, _, _, hb => by simp [own] at hb
  | .str _, _, _, hb => by simp [own] at hb
  | .cst _, _, _, hb => by simp [own] at hb
  | .hole _, _, _, hb => by simp [own] at hb
  | .nd k w a dx xs, h, b, hb => by
    rw [own, List.mem_append] at hb
    rcases hb with hb | hb
    · exact nodeOwnMut h.1 hb
    · exact ownL_mut h.2.1 hb
theorem ownL_mut : ∀ {xs : List A}, OkL B H xs → ∀ {b}, b ∈ ownL xs → ∃ o, H b = some o ∧ mutO o
  | [], _, _, hb => by simp [ownL] at hb
  | x :: xs, h, b, hb => by
    rw [ownL, List.mem_append] at hb
    rcases hb with hb | hb
    · exact own_mut h.1 hb
    · exact ownL_mut h.2 hb
end
mutual
theorem frz_imm : ∀ {x : A}, Ok B H x → noMut (er x) = true → ∀ {b}, b ∈ frz x → ∃ o, H b = some o ∧ ¬ mutO o
  | .non, _, _, _, hb => by simp [frz] at hb
  | .bl _, _, _, _, hb => by simp [frz] at hb
  | .int _, _, _, _, hb => by simp [frz] at hb
  | .str _, _, _, _, hb => by simp [frz] at hb
  | .cst _, _, _, _, hb => by simp [frz] at hb
  | .hole _, _, _, _, hb => by simp [frz] at hb
  | .nd k w a dx xs, h, hn, b, hb => by
    rw [er, noMut, Bool.and_eq_true] at hn
    rw [frz, List.mem_append] at hb
    rcases hb with hb | hb
    · exact nodeFrzImm h.1 hn.1 hb
    · exact frzL_imm h.2.1 hn.2 hb
theorem frzL_imm : ∀ {xs : List A}, OkL B H xs → noMutL (erL xs) = true → ∀ {b}, b ∈ frzL xs → ∃ o, H b = some o ∧ ¬ mutO o
  | [], _, _, _, hb => by simp [frzL] at hb
  | x :: xs, h, hn, b, hb => by
    rw [erL, noMutL, Bool.and_eq_true] at hn
    rw [frzL, List.mem_append] at hb
    rcases hb with hb | hb
    · exact frz_imm h.1 hn.1 hb
    · exact frzL_imm h.2 hn.2 hb
end
/-- frozen, and once more -/
theorem W.fzAll (h : W B H (S ++ R)) : W B H (Tr.fzL S ++ (Tr.fzL S ++ R)) := by
  obtain ⟨oS, oR⟩ := okL_append.mp h.ok
  obtain ⟨a1, a2, a3⟩ := fzL_ok oS
  refine h.sub (fun y hy => ?_) ?_ (fun b hb => ?_) fun b hb => ?_
  · rcases List.mem_append.mp hy with z | z
    · exact okL_iff.mp a1 y z
    · rcases List.mem_append.mp z with z | z
      · exact okL_iff.mp a1 y z
      · exact okL_iff.mp oR y z
  · rw [ownL_append, ownL_append, a2]
    have := h.nd
    rw [ownL_append] at this
    exact (List.nodup_append.mp this).2.1
  · rw [ownL_append, ownL_append, a2] at hb
    rw [ownL_append]
    exact List.mem_append_right _ hb
  · rw [ownL_append, ownL_append, a2, List.nil_append, ownL_append, a2, List.nil_append]
    rw [frzL_append, frzL_append, List.mem_append, List.mem_append, a3 b] at hb
    rw [frzL_append, List.mem_append, List.mem_append]
    have n := h.nd
    rw [ownL_append] at n
    have d := (List.nodup_append.mp n).2.2
    rcases hb with (z | z) | (z | z) | z
    · exact .inr ⟨.inl z, fun q => d b z b q rfl⟩
    · exact .inl (.inl z)
    · exact .inr ⟨.inl z, fun q => d b z b q rfl⟩
    · exact .inl (.inl z)
    · exact .inl (.inr z)
theorem W.thaw (h0 : W B H0 (S ++ R)) (h1 : W B H' (r :: (Tr.fzL S ++ R))) (hn : noMut (er r) = true) : W B H' (r :: (S ++ R)) := by
  obtain ⟨oS, oR⟩ := okL_append.mp h0.ok
  obtain ⟨_, a2, a3⟩ := fzL_ok oS
  obtain ⟨pS, pR⟩ := okL_append.mp h1.drop.ok
  have qS : OkL B H' S := okL_thaw oS pS
  have n1 := h1.nd
  rw [ownL, ownL_append, a2, List.nil_append] at n1
  obtain ⟨n2, n3, n4⟩ := List.nodup_append.mp n1
  have ap1 : ∀ b, b ∈ own r ∨ b ∈ ownL R → b ∉ frz r ∧ b ∉ frzL (Tr.fzL S) ∧ b ∉ frzL R := fun b hb => by
    have := h1.ap b (by rw [ownL, ownL_append, a2, List.nil_append, List.mem_append]; exact hb)
    rw [frzL, frzL_append, List.mem_append, List.mem_append] at this
    exact ⟨fun z => this (.inl z), fun z => this (.inr (.inl z)), fun z => this (.inr (.inr z))⟩
  refine ⟨⟨h1.head, okL_append.mpr ⟨qS, pR⟩⟩, ?_, fun b hb => ?_⟩
  · rw [ownL]
    refine List.nodup_append.mpr ⟨n2, h0.nd, fun a ha b hb e => ?_⟩
    subst e
    rw [ownL_append, List.mem_append] at hb
    rcases hb with hb | hb
    · exact (ap1 a (.inl ha)).2.1 ((a3 a).mpr (.inl hb))
    · exact n4 a ha a hb rfl
  · rw [ownL, List.mem_append] at hb
    rw [frzL, frzL_append, List.mem_append, List.mem_append]
    rcases hb with hb | hb
    · obtain ⟨k1, k2, k3⟩ := ap1 b (.inl hb)
      rintro (z | z | z)
      · exact k1 z
      · exact k2 ((a3 b).mpr (.inr z))
      · exact k3 z
    · have ap0 := h0.ap b hb
      rw [frzL_append, List.mem_append] at ap0
      rintro (z | z | z)
      · rw [ownL_append, List.mem_append] at hb
        rcases hb with hb | hb
        · obtain ⟨o, e1, m1⟩ := ownL_mut qS hb
          obtain ⟨o', e2, m2⟩ := frz_imm h1.head hn z
          rw [e1] at e2
          cases e2
          exact m2 m1
        · exact (ap1 b (.inr hb)).1 z
      · exact ap0 (.inl z)
      · exact ap0 (.inr z)
end
/-! expressions -/
def fzE (ρ : Env) : Env := ρ.map (Option.map T.fz)
def lendK (ρ : Env) : Rs T → Rs T
  | .ok t _ => if noMut t = true then .ok t ρ else .bad
  | .exc e _ => .exc e ρ
  | .bad => .bad
def lendB (ρ : Env) : Rs Bool → Rs Bool
  | .ok t _ => .ok t ρ
  | .exc e _ => .exc e ρ
  | .bad => .bad
def fLend (f : M T) : M T := fun ρ => lendK ρ (f (fzE ρ))
def bLend (f : M Bool) : M Bool := fun ρ => lendB ρ (f (fzE ρ))
theorem ev_lend (f : M T) (ρ : Env) : fLend f ρ = lendK ρ (f (fzE ρ)) := rfl
theorem ev_lendB (f : M Bool) (ρ : Env) : bLend f ρ = lendB ρ (f (fzE ρ)) := rfl
theorem ev_lendK {t : T} {ρ ρ' : Env} (h : noMut t = true) : lendK ρ (.ok t ρ') = .ok t ρ := if_pos h
theorem ev_lendBK {t : Bool} {ρ ρ' : Env} : lendB ρ (.ok t ρ') = .ok t ρ := rfl
theorem ev_lendE {e : Ex} {ρ ρ' : Env} : lendK ρ (.exc e ρ') = .exc e ρ := rfl
theorem ev_lendBE {e : Ex} {ρ ρ' : Env} : lendB ρ (.exc e ρ') = .exc e ρ := rfl
theorem fzE_nil : fzE [] = [] := rfl
theorem fzE_none (ρ : Env) : fzE (none :: ρ) = none :: fzE ρ := rfl
theorem fzE_some (t : T) (ρ : Env) : fzE (some t :: ρ) = some t.fz :: fzE ρ := rfl
def fzA (ρ : AEnv) : AEnv := ρ.map (Option.map fz)
theorem erE_fzA (ρ : AEnv) : erE (fzA ρ) = fzE (erE ρ) := by
  unfold erE fzA fzE
  rw [List.map_map, List.map_map]
  refine List.map_congr_left fun x _ => ?_
  cases x with
  | none => rfl
  | some y => show some (er (fz y)) = some (er y).fz; rw [er_fz]
theorem slots_fzA : ∀ ρ : AEnv, slots (fzA ρ) = fzL (slots ρ)
  | [] => rfl
  | none :: ρ => slots_fzA ρ
  | some x :: ρ => by
    show fz x :: slots (fzA ρ) = fz x :: fzL (slots ρ)
    rw [slots_fzA ρ]
theorem mat_fzA {ρ : AEnv} {σ : L2.St} (m : Mat ρ σ) : Mat (fzA ρ) σ := by
  refine ⟨by unfold fzA; rw [List.length_map]; exact m.len, fun i r e => ?_⟩
  unfold fzA at e
  rw [List.getElem?_map] at e
  cases h : ρ[i]? with
  | none => rw [h] at e; cases e
  | some y =>
    rw [h] at e
    cases y with
    | none => cases e
    | some s =>
      cases e
      rw [val_fz]
      exact m.at_ i s h
section
variable {X : Cx} {c : Cu} {e : Expr} {f : M T} {fb : M Bool}
/-- the roots stand frozen in the frame; behind the expression they come back -/
theorem lend_in {σ : L2.St} {H : Hp} {ρ : Env} {R : List A} (I : SI X c σ H ρ R) : ∃ R', SI X c σ H (fzE ρ) R' ∧ (∀ H' ρ' r, noMut (er r) = true → SI X c σ H' ρ' (r :: R') → SI X c σ H' ρ (r :: R)) ∧ (∀ H' ρ', SI X c σ H' ρ' R' → SI X c σ H' ρ R) := by
  obtain ⟨ρA, eA, m, w⟩ := I
  have key : ∀ (H' : Hp) (ρ' : Env) (r : A), noMut (er r) = true → SI X c σ H' ρ' (r :: (fzL (slots ρA) ++ R)) → SI X c σ H' ρ (r :: R) := fun H' ρ' r hn I' => by
    obtain ⟨ρA', _, _, w'⟩ := I'
    have w3 := W.thaw w w'.right hn
    exact ⟨ρA, eA, m, w3.toMid⟩
  refine ⟨fzL (slots ρA) ++ R, ⟨fzA ρA, by rw [erE_fzA, eA], mat_fzA m, by rw [slots_fzA]; exact w.fzAll⟩, key, fun H' ρ' I' => ?_⟩
  have I2 : SI X c σ H' ρ' (.non :: (fzL (slots ρA) ++ R)) := I'.map fun S w => (W.non w).toMid
  exact (key H' ρ' .non rfl I2).drop
theorem se_lend (h : SE X c e f) : SE X c e (fLend f) := pe_imp h fun σ H Q q => by
  obtain ⟨ρ, R, I, P⟩ := q
  obtain ⟨R', I', k1, k2⟩ := lend_in I
  refine ⟨fzE ρ, R', I', ?_⟩
  rw [ev_lend] at P
  cases hf : f (fzE ρ) with
  | ok t ρ' =>
    rw [hf] at P
    unfold lendK at P
    dsimp only at P
    by_cases hn : noMut t = true
    · rw [if_pos hn] at P
      exact fun r H' er' I2 => P r H' er' (k1 H' ρ' r (by rw [er']; exact hn) I2)
    · rw [if_neg hn] at P
      exact P.elim
  | exc e' ρ' =>
    rw [hf] at P
    exact fun H' cls d I2 E => P H' cls d (k2 H' ρ' I2) E
  | bad =>
    rw [hf] at P
    exact P.elim
theorem sc_lend (h : SC X c e fb) : SC X c e (bLend fb) := pt_imp h fun σ H Q q => by
  obtain ⟨ρ, R, I, P⟩ := q
  obtain ⟨R', I', k1, k2⟩ := lend_in I
  refine ⟨fzE ρ, R', I', ?_⟩
  rw [ev_lendB] at P
  cases hf : fb (fzE ρ) with
  | ok t ρ' =>
    rw [hf] at P
    exact fun H' I2 => P H' (k2 H' ρ' I2)
  | exc e' ρ' =>
    rw [hf] at P
    exact fun H' cls d I2 E => P H' cls d (k2 H' ρ' I2) E
  | bad =>
    rw [hf] at P
    exact P.elim
end
/-! ### zip -/
def zipP (xs ys : List T) : List T := List.zipWith (fun x y => .nd .tup [x, y]) xs ys
def zipItems : List T → Option (List T)
  | [.nd (.lst _) xs, .nd (.lst _) ys] => some (zipP (T.fzL xs) (T.fzL ys))
  | [.nd .tup xs, .nd .tup ys] => some (zipP xs ys)
  | _ => none
theorem ownL_at : ∀ {l : List A}, ownL l = [] → ∀ {i : Nat} {r : A}, l[i]? = some r → own r = []
  | [], _, i, r, h => by simp at h
  | y :: l, h, i, r, hr => by
    rw [ownL] at h
    obtain ⟨h1, h2⟩ := List.append_eq_nil_iff.mp h
    cases i with
    | zero => simp at hr; subst hr; exact h1
    | succ i => exact ownL_at h2 (by simpa using hr)
theorem own_frozen {B : Tab} {H : Hp} {k : NK} {w : Bool} {a dx : Addr} {xs : List A} (hk : k.m = false) (ok : Ok B H (.nd k w a dx xs)) : own (.nd k w a dx xs) = [] := by
  rw [own, ok.2.2 hk]
  unfold ownN
  rw [hk]
  rfl
theorem zip_pairs {B : Tab} {J : It} {k : NK} {w1 w2 : Bool} {a1 d1 a2 d2 : Addr} {xs ys : List A} (hk : k.m = false)
    (hgo : ∀ i H x y, NodeOk B H k w1 a1 d1 (xs.map val) → NodeOk B H k w2 a2 d2 (ys.map val) → (xs.map val)[i]? = some x → (ys.map val)[i]? = some y → J.go i H)
    (hy : ∀ i H x H', NodeOk B H k w1 a1 d1 (xs.map val) → NodeOk B H k w2 a2 d2 (ys.map val) → J.yld i H x H' → ∃ T y z, x = .ref T ∧ H T = none ∧ H' = upd H T (.tup [y, z]) ∧ (xs.map val)[i]? = some y ∧ (ys.map val)[i]? = some z)
    (hst : ∀ i H, NodeOk B H k w1 a1 d1 (xs.map val) → NodeOk B H k w2 a2 d2 (ys.map val) → (xs.length ≤ i ∨ ys.length ≤ i) → J.stop i H) : Enum B J (zipP (erL xs) (erL ys)) [.nd k w1 a1 d1 xs, .nd k w2 a2 d2 ys] := by
  intro i H R w0
  have ok1 : Ok B H (.nd k w1 a1 d1 xs) := w0.head
  have ok2 : Ok B H (.nd k w2 a2 d2 ys) := w0.drop.head
  refine ⟨fun t ht => ?_, fun h => hst i H ok1.1 ok2.1 ?_⟩
  · unfold zipP at ht
    rw [List.getElem?_zipWith, erL_get, erL_get] at ht
    cases ex : xs[i]? with
    | none => rw [ex] at ht; cases ht
    | some r =>
      cases ey : ys[i]? with
      | none => rw [ex, ey] at ht; cases ht
      | some s =>
        rw [ex, ey] at ht
        have et : T.nd .tup [er r, er s] = t := Option.some.inj ht
        have vx : (xs.map val)[i]? = some (val r) := by rw [List.getElem?_map, ex]; rfl
        have vy : (ys.map val)[i]? = some (val s) := by rw [List.getElem?_map, ey]; rfl
        refine ⟨hgo i H _ _ ok1.1 ok2.1 vx vy, fun x H' yy => ?_⟩
        obtain ⟨TT, y, z, rfl, hT, rfl, e1, e2⟩ := hy i H x H' ok1.1 ok2.1 yy
        rw [vx] at e1
        rw [vy] at e2
        cases e1
        cases e2
        refine ⟨.nd .tup false TT 0 [r, s], by rw [← et]; rfl, rfl, ?_⟩
        have o1 := own_frozen hk ok1
        have o2 := own_frozen hk ok2
        have wa : W B H (.nd k w1 a1 d1 xs :: .nd k w1 a1 d1 xs :: .nd k w2 a2 d2 ys :: R) := W.dup w0 o1
        have wb : W B H (r :: .nd k w1 a1 d1 xs :: .nd k w2 a2 d2 ys :: R) := wa.child ex
        have wc : W B H (.nd k w2 a2 d2 ys :: r :: .nd k w1 a1 d1 xs :: R) := wb.perm (((List.Perm.swap _ _ _).cons _).symm.trans (List.Perm.swap _ _ _) |>.symm)
        have wd : W B H (s :: .nd k w2 a2 d2 ys :: r :: .nd k w1 a1 d1 xs :: R) := (W.dup wc o2).child ey
        have we : W B H ([r, s] ++ (.nd k w1 a1 d1 xs :: .nd k w2 a2 d2 ys :: R)) := wd.perm (by
          refine perm_of fun f g ha hc hn => ?_
          simp only [List.cons_append, List.nil_append, hc]
          omega)
        exact W.tup we hT (by rw [ownL, ownL, ownL, ownL_at (ok1.2.2 hk) ex, ownL_at (ok2.2.2 hk) ey]; rfl)
  · unfold zipP at h
    rw [List.length_zipWith, len_erL, len_erL] at h
    omega
section
variable {X : Cx} {c : Cu} {e e2 : Expr} {fl : M (List T)} {elts : List Expr} {kk : Nat} {tpos p pos : Pos}
theorem sit_zip (hm : X.mg "zip" = none) (h : SL X c [e, e2] fl) (hg : Gl X "zip" := by rfl) (hs : starEach [e, e2] X.env = (false, eval e X.env) :: starEach [e2] X.env := by rfl) (hpl : (backTo pos (starEach [e2] X.env)).any (·.1) = false := by rfl) :
    SIt X c (.Tuple elts kk tpos) (.Call (.Name "zip" p) [e, e2] [] pos) (fItemsL fl zipItems) := pi_imp (RZ.pi_zipA hg hm h hs hpl) fun σ H Q h => by
  obtain ⟨ρ, R, I, P⟩ := h
  refine sl_then I P fun rs H1 ρ1 I1 P1 => ?_
  obtain ⟨items, e1, q⟩ := P1.lift
  unfold zipItems at e1
  split at e1
  · rename_i m xs m' ys eu
    cases e1
    obtain ⟨r, s, rfl, er1, er2⟩ := er_two eu
    have I2 : SI X c σ H1 ρ1 ([fz r, fz s] ++ R) := I1.imp fun S w' => by
      have w2 : W (tab X c) H1 (fz r :: s :: (R ++ S)) := W.fz w'
      have w3 : W (tab X c) H1 (fz s :: fz r :: (R ++ S)) := W.fz w2.swap
      exact w3.swap
    obtain ⟨w1, a1, d1, zs, rfl, rfl⟩ := er_nd er1
    obtain ⟨w2, a2, d2, zs2, rfl, rfl⟩ := er_nd er2
    obtain ⟨ρA, eA, mA, wA⟩ := id I1
    have okk := (okL_append.mp wA.ok).2
    have ok : Ok (tab X c) H1 (.nd (.lst m) w1 a1 d1 zs) := okk.1
    have ok' : Ok (tab X c) H1 (.nd (.lst m') w2 a2 d2 zs2) := okk.2.1
    obtain ⟨ys, ez, ey, ev⟩ := fz_lst ok
    obtain ⟨ys2, ez2, ey2, ev2⟩ := fz_lst ok'
    have okf := (fz_ok ok).1
    have okf2 := (fz_ok ok').1
    have sq : ∀ H w' a d (l : List A), NodeOk (tab X c) H (.lst false) w' a d (l.map val) → SqL X.K H a (l.map val) := fun H w' a d l h => .inl (.inl h.2)
    rw [ez] at okf I2
    rw [ez2] at okf2 I2
    refine ⟨a1, a2, zs.map val, zs2.map val, rfl, .inl ⟨by rw [← ev]; exact sq H1 w1 _ _ _ okf.1, by rw [← ev2]; exact sq H1 w2 _ _ _ okf2.1, ?_⟩⟩
    refine q H1 (Itz X.K a1 a2) [.nd (.lst false) w1 a1 d1 ys, .nd (.lst false) w2 a2 d2 ys2] I2 (by
      rw [← ey, ← ey2]
      exact zip_pairs rfl (fun i H x y h h2 hx hy => ⟨_, _, x, y, sq H w1 _ _ _ h, sq H w2 _ _ _ h2, hx, hy⟩) (fun i H x H' h h2 y => by
        obtain ⟨TT, x', x2, y1, y2, y3, y4, y5⟩ := y
        exact ⟨TT, x', x2, y1, y2, y3, y4 _ (sq H w1 _ _ _ h), y5 _ (sq H w2 _ _ _ h2)⟩) fun i H h h2 hl => ⟨_, _, sq H w1 _ _ _ h, sq H w2 _ _ _ h2, by rw [List.length_map, List.length_map]; exact hl⟩)
  · rename_i xs ys eu
    cases e1
    obtain ⟨r, s, rfl, er1, er2⟩ := er_two eu
    obtain ⟨w1, a1, d1, zs, rfl, rfl⟩ := er_nd er1
    obtain ⟨w2, a2, d2, zs2, rfl, rfl⟩ := er_nd er2
    obtain ⟨ρA, eA, mA, wA⟩ := id I1
    have okk := (okL_append.mp wA.ok).2
    have ok : Ok (tab X c) H1 (.nd .tup w1 a1 d1 zs) := okk.1
    have ok' : Ok (tab X c) H1 (.nd .tup w2 a2 d2 zs2) := okk.2.1
    have sq : ∀ H w' a d (l : List A), NodeOk (tab X c) H .tup w' a d (l.map val) → SqT X.K H a (l.map val) := fun H w' a d l h => by
      cases w' with
      | true => exact h H
      | false => exact .inl (.inl h)
    refine ⟨a1, a2, zs.map val, zs2.map val, rfl, .inr ⟨sq H1 w1 _ _ _ ok.1, sq H1 w2 _ _ _ ok'.1, ?_⟩⟩
    refine q H1 (RZ.ItzT X.K a1 a2) [.nd .tup w1 a1 d1 zs, .nd .tup w2 a2 d2 zs2] I1 (by
      exact zip_pairs rfl (fun i H x y h h2 hx hy => ⟨_, _, x, y, sq H w1 _ _ _ h, sq H w2 _ _ _ h2, hx, hy⟩) (fun i H x H' h h2 y => by
        obtain ⟨TT, x', x2, y1, y2, y3, y4, y5⟩ := y
        exact ⟨TT, x', x2, y1, y2, y3, y4 _ (sq H w1 _ _ _ h), y5 _ (sq H w2 _ _ _ h2)⟩) fun i H h h2 hl => ⟨_, _, sq H w1 _ _ _ h, sq H w2 _ _ _ h2, by rw [List.length_map, List.length_map]; exact hl⟩)
  · cases e1
end
/-! ### - x, x is None of a value as a test -/
def gNeg : T → Option T
  | .int i => some (.int (-i))
  | _ => none
theorem sim_neg {B : Tab} : Sim1 B (rU fun i => .int (-i)) gNeg := fun H x R t Q w e hz => by
  unfold gNeg at e
  split at e
  · rename_i i ei
    cases e
    rw [er_int ei] at w ⊢
    exact ⟨i, rfl, hz (.int (-i)) H rfl w.drop.int⟩
  · cases e
section
variable {X : Cx} {c : Cu} {a : Expr} {fa : M T} {pos : Pos}
def bNvK (neg : Bool) (x : T) : M Bool := lift (gIsN neg x)
def bNv (neg : Bool) (fa : M T) : M Bool := fa.bind (bNvK neg)
theorem ev_bNv (neg : Bool) (fa : M T) (ρ : Env) : bNv neg fa ρ = (fa ρ).bind (bNvK neg) := rfl
theorem ev_bNvK (neg : Bool) (x : T) (ρ : Env) : bNvK neg x ρ = lift (gIsN neg x) ρ := rfl
theorem sc_isNV (ha : SE X c a fa) : ∀ {j p2}, SC X c (.Compare a [.Is] [.Constant .none j p2] pos) (bNv false fa) := fun {j p2} =>
  pt_imp (pt_cmpR op_isN ha pe_non (nomark _)) fun σ H Q h => by
    obtain ⟨ρ, R, I, P⟩ := h
    refine se_then I P fun x H1 ρ1 I1 P1 => ?_
    obtain ⟨k, ek, q⟩ := P1.lift
    refine ⟨rfl, k, ?_, q H1 I1.drop⟩
    rw [non_iff (neg := false) ek]
    rfl
theorem sc_notNV (ha : SE X c a fa) : ∀ {j p2}, SC X c (.Compare a [.IsNot] [.Constant .none j p2] pos) (bNv true fa) := fun {j p2} =>
  pt_imp (pt_cmpR op_notN ha pe_non (nomark _)) fun σ H Q h => by
    obtain ⟨ρ, R, I, P⟩ := h
    refine se_then I P fun x H1 ρ1 I1 P1 => ?_
    obtain ⟨k, ek, q⟩ := P1.lift
    refine ⟨rfl, k, ?_, q H1 I1.drop⟩
    rw [non_iff (neg := true) ek]
    rfl
end
end Tr
end

section
set_option Elab.async false
set_option linter.all false
set_option autoImplicit false
set_option maxRecDepth 100000
/-! A list of frozen things times an int; places; comparisons of rows. -/
namespace Tr
open PySem PySem.Spec PyProof.Rows L2
def frzT : T → Bool
  | .nd k _ => !k.m
  | _ => true
theorem own_frzT {B : Tab} {H : Hp} {x : A} (ok : Ok B H x) (h : frzT (er x) = true) : own x = [] := by
  cases x with
  | nd k w a dx xs =>
    rw [er] at h
    exact own_frozen (by simpa [frzT] using h) ok
  | _ => rfl
theorem ownL_frz {B : Tab} {H : Hp} : ∀ {xs : List A}, (∀ x ∈ xs, Ok B H x ∧ frzT (er x) = true) → ownL xs = []
  | [], _ => rfl
  | x :: xs, h => by
    obtain ⟨a, b⟩ := h x List.mem_cons_self
    rw [ownL, own_frzT a b, ownL_frz (xs := xs) fun y hy => h y (List.mem_cons_of_mem _ hy)]
    rfl
/-- frozen things, as often as one wants -/
theorem W.rep {B : Tab} {H : Hp} {R zs l : List A} (h : W B H (zs ++ R)) (hl : ∀ y ∈ l, y ∈ zs) (hz : ∀ y ∈ zs, frzT (er y) = true) : W B H (l ++ R) := by
  obtain ⟨oz, oR⟩ := okL_append.mp h.ok
  have ol : ∀ y ∈ l, Ok B H y := fun y hy => okL_iff.mp oz y (hl y hy)
  have e1 : ownL l = [] := ownL_frz fun y hy => ⟨ol y hy, hz y (hl y hy)⟩
  have n := h.nd
  rw [ownL_append] at n
  refine h.sub (fun y hy => ?_) (by rw [ownL_append, e1]; exact (List.nodup_append.mp n).2.1) (fun b hb => ?_) fun b hb => .inl ?_
  · rcases List.mem_append.mp hy with z | z
    · exact ol y z
    · exact okL_iff.mp oR y z
  · rw [ownL_append, e1] at hb
    rw [ownL_append]
    exact List.mem_append_right _ hb
  · rw [frzL_append, List.mem_append] at hb ⊢
    rcases hb with z | z
    · obtain ⟨y, hy, hb⟩ := mem_frzL.mp z
      exact .inl (mem_frzL.mpr ⟨y, hl y hy, hb⟩)
    · exact .inr z
def gMul2 : T → T → Option T
  | .nd (.lst _) xs, .int k => if -(2 ^ 63) ≤ k ∧ k < 2 ^ 63 ∧ xs.length * k.toNat ≤ sizeLine ∧ xs.all frzT then some (.nd (.lst true) (List.replicate k.toNat xs).flatten) else none
  | _, _ => none
theorem sim_mul2 {B : Tab} : Sim2 B rMulA gMul2 := fun H x y R t Q w e hz => by
  have ox := w.drop.head
  unfold gMul2 at e
  split at e
  · rename_i m xs k h1 h2
    split at e
    · rename_i hc
      obtain ⟨c1, c2, c3, c4⟩ := hc
      cases e
      obtain ⟨w1, a1, d1, zs, rfl, rfl⟩ := er_nd h1
      rw [er_int h2]
      rw [len_erL] at c3
      refine .inr ⟨a1, k, zs.map val, rfl, rfl, ox.1.2, c1, c2, by rw [List.length_map]; exact c3, fun p hp => ?_⟩
      have w0 : W B H (zs ++ R) := W.open w.drop
      have wa : W B H ((List.replicate k.toNat zs).flatten ++ R) := W.rep w0 (fun y hy => by
        obtain ⟨l, hl, ht⟩ := List.mem_flatten.mp hy
        rw [(List.mem_replicate.mp hl).2] at ht
        exact ht) fun y hy => by
        rw [List.all_eq_true] at c4
        exact c4 _ (by rw [erL_map]; exact List.mem_map_of_mem hy)
      rw [← flat_rep]
      have wc := W.node (k := .lst true) (p := p) (dx := 0) (o := .lst ((List.replicate k.toNat zs).flatten.map val)) wa hp ⟨rfl, upd_same⟩ (fun _ _ _ q => nomatch q) fun q => nomatch q
      exact hz _ _ (by rw [er, erL_map, erL_map, flat_rep]) wc
    · cases e
  · cases e
/-! places -/
theorem get_put : ∀ (p : List Nat) (r x : T), r.get p = some x → r.set p x = r
  | [], r, x, h => by
    rw [get_nil] at h
    cases h
    rw [set_nil]
  | i :: p, .nd k xs, x, h => by
    rw [T.get] at h
    rw [T.set]
    cases e : xs[i]? with
    | none => rfl
    | some y =>
      rw [e, Option.bind_some] at h
      dsimp only
      rw [get_put p y x h]
      congr 1
      apply List.ext_getElem?
      intro j
      by_cases hj : i = j
      · subst hj
        rw [List.getElem?_set_self (List.getElem?_eq_some_iff.mp e).1, e]
      · rw [List.getElem?_set_ne hj]
  | i :: p, .non, x, h => by cases h
  | i :: p, .bl _, x, h => by cases h
  | i :: p, .int _, x, h => by cases h
  | i :: p, .str _, x, h => by cases h
  | i :: p, .cst _, x, h => by cases h
  | i :: p, .hole, x, h => by cases h
theorem get_app : ∀ (p q : List Nat) (r x : T), r.get p = some x → r.get (p ++ q) = x.get q
  | [], q, r, x, h => by
    rw [get_nil] at h
    cases h
    first | done | rfl
  | i :: p, q, .nd k xs, x, h => by
    rw [T.get] at h
    rw [List.cons_append, T.get]
    cases e : xs[i]? with
    | none => rw [e] at h; cases h
    | some y =>
      rw [e, Option.bind_some] at h
      rw [Option.bind_some]
      exact get_app p q y x h
  | i :: p, q, .non, x, h => by cases h
  | i :: p, q, .bl _, x, h => by cases h
  | i :: p, q, .int _, x, h => by cases h
  | i :: p, q, .str _, x, h => by cases h
  | i :: p, q, .cst _, x, h => by cases h
  | i :: p, q, .hole, x, h => by cases h
section
variable {fp : M (Nat × List Nat)} {i j : Nat} {p : List Nat} {ρ : Env} {r x l y t k : T} {xs : List T} {nk : NK} {v : V} {g : Env → Option T}
theorem env_put (h : ρ[i]? = some (some r)) : ρ.set i (some r) = ρ := by
  have hi : i < ρ.length := (List.getElem?_eq_some_iff.mp h).1
  apply List.ext_getElem?
  intro m
  by_cases hm : i = m
  · subst hm; rw [List.getElem?_set_self hi, h]
  · rw [List.getElem?_set_ne hm]
theorem pl_at (h : ρ[i]? = some (some r)) : fPl i ρ = .ok (i, []) ρ := by
  rw [ev_pl, h, ev_plK]
theorem ix_at (hf : fp ρ = .ok (i, p) ρ) (h : ρ[i]? = some (some r)) (hl : r.get p = some (.nd nk xs)) (hg : g ρ = some k) (hk : atomV k = some v) (hp : posIx (.nd nk xs) k = some j) (hx : xs[j]? = some y) : fIx g fp ρ = .ok (i, p ++ [j]) ρ := by
  have e : r.get (p ++ [j]) = some y := by rw [get_app p [j] r _ hl, get_one, hx]
  rw [ev_ix, hf, ev_ok, ev_ixK, hg]
  dsimp only
  rw [hk]
  dsimp only
  rw [ev_deeper, h, ev_dpK, hl]
  dsimp only
  rw [hp]
  dsimp only
  rw [e]
theorem get_at (hl : r.get p = some (.nd nk xs)) (hx : xs[j]? = some y) : r.get (p ++ [j]) = some y := by rw [get_app p [j] r _ hl, get_one, hx]
theorem rd_at (hf : fp ρ = .ok (i, p) ρ) (h : ρ[i]? = some (some r)) (hx : r.get p = some x) (hz : T.fz x = x) : fRd fp ρ = .ok x ρ := by
  rw [ev_rd, hf, ev_ok, ev_rdPl, h, ev_rdK, hx]
  dsimp only
  rw [hz, get_put p r x hx, env_put h]
theorem len_at (hf : fp ρ = .ok (i, p) ρ) (h : ρ[i]? = some (some r)) (hx : r.get p = some x) (hz : gLen x = some t) : fLenB fp ρ = .ok t ρ := by
  rw [ev_lenB, hf, ev_ok, ev_lenBK, h, ev_lbK, hx]
  dsimp only
  rw [hz]
end
/-! rows of ints -/
def encR (r : List Int) : T := .nd .tup (r.map T.int)
def encV (vals : List (List Int)) : T := .nd (.lst false) (vals.map encR)
theorem fz_R (r : List Int) : T.fz (encR r) = encR r := rfl
theorem fzL_R (vals : List (List Int)) : T.fzL (vals.map encR) = vals.map encR := by
  induction vals with
  | nil => rfl
  | cons v L ih => rw [List.map_cons, T.fzL, ih]; rfl
theorem fz_V (m : Bool) (vals : List (List Int)) : T.fz (.nd (.lst m) (vals.map encR)) = encV vals := by
  cases m with
  | true => show T.nd (.lst false) (T.fzL (vals.map encR)) = _; rw [fzL_R]; rfl
  | false => rfl
theorem pd_R (r : List Int) : pd (encR r) = some (.tuple (r.map PyData.int)) := by
  unfold encR
  rw [pd, pdL_ints]
theorem pdL_R : ∀ vals : List (List Int), pdL (vals.map encR) = some (vals.map fun r => PyData.tuple (r.map PyData.int))
  | [] => rfl
  | r :: vals => by rw [List.map_cons, pdL, pd_R, pdL_R vals]; rfl
theorem pd_V (m : Bool) (vals : List (List Int)) : pd (.nd (.lst m) (vals.map encR)) = some (.list (vals.map fun r => PyData.tuple (r.map PyData.int))) := by rw [pd, pdL_R]
theorem lay_R : ∀ vals : List (List Int), PyData.canLayAll0 (vals.map fun r => PyData.tuple (r.map PyData.int)) = true
  | [] => rfl
  | r :: vals => by rw [List.map_cons, PyData.canLayAll0, PyData.canLay0, lay_ints, lay_R vals]; rfl
theorem dep_R : ∀ vals : List (List Int), PyData.depthAll (vals.map fun r => PyData.tuple (r.map PyData.int)) ≤ 1
  | [] => Nat.zero_le _
  | r :: vals => by
    rw [List.map_cons, PyData.depthAll, PyData.depth]
    have := dep_R vals
    have := dep_ints r
    omega
theorem eqv_I : ∀ a b : List Int, PyData.eqvAll (a.map PyData.int) (b.map PyData.int) = decide (a = b)
  | [], [] => by simp [PyData.eqvAll]
  | [], _ :: _ => by simp [PyData.eqvAll]
  | _ :: _, [] => by simp [PyData.eqvAll]
  | x :: xs, y :: ys => by
    rw [List.map_cons, List.map_cons, PyData.eqvAll, eqv_I xs ys]
    have : PyData.eqv (.int x) (.int y) = decide (x = y) := rfl
    rw [this, ← Bool.decide_and]
    exact decide_eq_decide.mpr (by rw [List.cons.injEq])
theorem eqv_R : ∀ a b : List (List Int), PyData.eqvAll (a.map fun r => PyData.tuple (r.map PyData.int)) (b.map fun r => PyData.tuple (r.map PyData.int)) = decide (a = b)
  | [], [] => by simp [PyData.eqvAll]
  | [], _ :: _ => by simp [PyData.eqvAll]
  | _ :: _, [] => by simp [PyData.eqvAll]
  | x :: xs, y :: ys => by
    rw [List.map_cons, List.map_cons, PyData.eqvAll, eqv_R xs ys]
    have : PyData.eqv (.tuple (x.map PyData.int)) (.tuple (y.map PyData.int)) = decide (x = y) := by rw [PyData.eqv, eqv_I]
    rw [this, ← Bool.decide_and]
    exact decide_eq_decide.mpr (by rw [List.cons.injEq])
theorem shpT {ds : List PyData} (h1 : PyData.canLayAll0 ds = true) (h2 : PyData.depthAll ds ≤ 63) : SeqAt.shaped (.tuple ds) = true := by
  unfold SeqAt.shaped
  rw [PyData.canLay0, h1, PyData.depth]
  simp; omega
theorem eq_R (a b : List Int) : gEq (encR a) (encR b) = some (decide (a = b)) := by
  unfold gEq
  rw [pd_R, pd_R]
  dsimp only
  rw [shpT (lay_ints a) (by have := dep_ints a; omega), shpT (lay_ints b) (by have := dep_ints b; omega), PyData.eqv, eqv_I]
  rfl
theorem eq_V (m m' : Bool) (a b : List (List Int)) : gEq (.nd (.lst m) (a.map encR)) (.nd (.lst m') (b.map encR)) = some (decide (a = b)) := by
  unfold gEq
  rw [pd_V, pd_V]
  dsimp only
  rw [shp (lay_R a) (by have := dep_R a; omega), shp (lay_R b) (by have := dep_R b; omega), PyData.eqv, eqv_R]
  rfl
/-! lists of lists of ints -/
def encI (m : Bool) (r : List Int) : T := .nd (.lst m) (r.map T.int)
theorem pd_I (m : Bool) (r : List Int) : pd (encI m r) = some (.list (r.map PyData.int)) := by
  unfold encI
  rw [pd, pdL_ints]
theorem eq_I (m m' : Bool) (a b : List Int) : gEq (encI m a) (encI m' b) = some (decide (a = b)) := by
  unfold gEq
  rw [pd_I, pd_I]
  dsimp only
  rw [shp (lay_ints a) (by have := dep_ints a; omega), shp (lay_ints b) (by have := dep_ints b; omega), PyData.eqv, eqv_I]
  rfl
theorem eq_II (m m1 m2 m' m3 m4 : Bool) (a b a' b' : List Int) : gEq (.nd (.lst m) [encI m1 a, encI m2 b]) (.nd (.lst m') [encI m3 a', encI m4 b']) = some (decide (a = a') && decide (b = b')) := by
  unfold gEq
  rw [pd, pdL, pdL, pdL, pd_I, pd_I, pd, pdL, pdL, pdL, pd_I, pd_I]
  dsimp only
  have s : ∀ x y : List Int, SeqAt.shaped (.list [.list (x.map PyData.int), .list (y.map PyData.int)]) = true := fun x y => by
    refine shp ?_ ?_
    · rw [PyData.canLayAll0, PyData.canLayAll0, PyData.canLayAll0, PyData.canLay0, PyData.canLay0, lay_ints, lay_ints]
      rfl
    · rw [PyData.depthAll, PyData.depthAll, PyData.depthAll, PyData.depth, PyData.depth]
      have := dep_ints x
      have := dep_ints y
      omega
  rw [s, s, PyData.eqv, PyData.eqvAll, PyData.eqvAll, PyData.eqvAll, PyData.eqv, PyData.eqv, eqv_I, eqv_I, Bool.and_true, if_pos rfl, Bool.and_true]
/-! lexicographic order of rows -/
def ltL : List Int → List Int → Bool
  | x :: xs, y :: ys => if x = y then ltL xs ys else decide (x < y)
  | _, _ => false
theorem eq_i (a b : Int) : gEq (.int a) (.int b) = some (decide (a = b)) := eq_int a b
theorem ne_i (a b : Int) : gNe (.int a) (.int b) = some (!decide (a = b)) := by
  unfold gNe
  rw [eq_i]
  rfl
end Tr
end

section
set_option Elab.async false
set_option linter.all false
set_option autoImplicit false
set_option maxRecDepth 100000
/-! The law's own def where no repr is under way; repr of lists and tuples. -/
namespace Tr
open PySem PySem.Spec PyProof.Rows L2
/-- a def's promise at the surroundings in which no repr is under way -/
structure FnG (P : Program) (w : World) (K : PySem.W.Frag) (mg : Str → Option Value) (base : Heap) (CX : CXT) (k : Nat) (f : Addr) (ps : List Str) (fd : FuncData) (sp : Sp) : Prop where
  go : ∀ (A : Around) (outer : List PySem.Env) (s : Shared) (H : Hp) (ar : Args) (us : List Value) (vs : List V) (Q : VK) (E : XK), A.guards = some [] → Room k A → Env0 P w K mg base A outer s H → BindsTo s fd ar (ps.zip us) → Vals vs us → sp vs H Q E → codeAny (model P w) A (.call (.ref f) ar) (CR CX outer P w H s Q E) s
section
variable {P : Program} {w : World} {K : PySem.W.Frag} {mg : Str → Option Value} {base : Heap}
theorem spF_start {ct : Nat → Addr} {ef : Nat → List Str} {qual : Str} {st : Stmt} {f : Addr} {N ps : List Str} {pr : List Bool} {fs : FS} {cdv : Value} {A : Around} {outer : List PySem.Env} {s : Shared} {H : Hp} {vs : List V} {Q : VK} {E : XK} (S : FnScope N ps (defScope st)) (hl : pr.length = ps.length)
    (hlen : ∀ vs H Q E, spF ⟨K, ct, ef⟩ (runF pr N.length fs) vs H Q E → vs.length = ps.length) (h : spF ⟨K, ct, ef⟩ (runF pr N.length fs) vs H Q E) :
    SSr (dX P w K mg base N qual (defScope st) f cdv A outer s H E) (dC ct ef E pr) fs { nx := fun _ H' => Q .non H', rt := Q } (L2.start N vs) H := by
  have hln := hlen vs H Q E h
  obtain ⟨xs, R, w1, rfl, h⟩ := h
  rw [List.length_map] at hln
  have hN : ps.length ≤ N.length := by have := congrArg List.length S.pre; rw [List.length_take] at this; omega
  refine ⟨(erL xs).map some ++ List.replicate (N.length - (erL xs).length) none, R, ⟨xs.map some ++ List.replicate (N.length - xs.length) none, ?_, ⟨?_, ?_⟩, ?_⟩, ?_⟩
  · unfold erE
    rw [len_erL, List.map_append, List.map_map, List.map_replicate, erL_map, List.map_map]
    rfl
  · unfold L2.start
    simp
  · intro i r e
    unfold L2.start
    by_cases hi : i < xs.length
    · rw [List.getElem?_append_left (by simpa using hi), List.getElem?_map] at e
      rw [List.getElem?_append_left (by simpa using hi), List.getElem?_map, List.getElem?_map]
      cases ex : xs[i]? with
      | none => rw [ex] at e; cases e
      | some y => rw [ex] at e; cases e; rfl
    · rw [List.getElem?_append_right (by simpa using hi), List.getElem?_replicate] at e
      split at e <;> cases e
  · rw [slots_map]; exact w1
  · unfold runF at h
    rw [if_pos (by rw [len_erL, hl]; exact hln)] at h
    -- the parameters at the end
    have fin : ∀ (σ' : L2.St) (H' : Hp) (ρ' : Env) (R' : List Tr.A), SI (dX P w K mg base N qual (defScope st) f cdv A outer s H E) (dC ct ef E pr) σ' H' ρ' R' → Keep (dC ct ef E pr) (L2.start N (xs.map val)) σ' →
        ∃ ys, erL ys = outs pr ρ' ∧ ys.map val = xs.map val ∧ W ⟨K, ct, ef⟩ H' (ys ++ R') := by
      rintro σ' H' ρ' R' ⟨ρA, rfl, m, w2⟩ kp
      refine outs_ok (by rw [List.length_map, hl, hln]) (fun i r v hp e1 e2 => ?_) w2
      have e3 := m.at_ i r e1
      rw [kp.at_ i hp] at e3
      unfold L2.start at e3
      have hi : i < (xs.map val).length := (List.getElem?_eq_some_iff.mp e2).1
      rw [List.getElem?_append_left (by simpa using hi), List.getElem?_map, e2] at e3
      exact (Option.some.inj (Option.some.inj e3)).symm
    cases hf : fs ((erL xs).map some ++ List.replicate (N.length - (erL xs).length) none) with
    | nx ρ' =>
      rw [hf] at h
      intro σ' H' I kp
      obtain ⟨ys, i1, i2, i3⟩ := fin σ' H' ρ' R I kp
      exact h .non ys H' rfl i1 i2 i3.non
    | ret t ρ' =>
      rw [hf] at h
      intro r σ' H' e I kp
      obtain ⟨ys, i1, i2, i3⟩ := fin σ' H' ρ' (r :: R) I kp
      exact h r ys H' e i1 i2 i3.mid
    | exc e ρ' =>
      rw [hf] at h
      intro σ' H' cls d I kp ex
      obtain ⟨ys, i1, i2, i3⟩ := fin σ' H' ρ' R I kp
      exact h ys H' cls d i1 i2 i3 ex
    | brk ρ' => rw [hf] at h; exact h.elim
    | ct ρ' => rw [hf] at h; exact h.elim
    | bad => rw [hf] at h; exact h.elim
/-- the rule for such a def -/
theorem def_okG {ct : Nat → Addr} {ef : Nat → List Str} {x qual : Str} {st : Stmt} {f : Addr} {fd : FuncData} {N ps : List Str} {k : Nat} {pr : List Bool} {fs : FS} (F : Fun K x qual st f fd) (S : FnScope N ps (defScope st)) (hl : pr.length = ps.length)
    (hb : ∀ (cdv : Value) (A : Around) (outer : List PySem.Env) (s : Shared) (H : Hp) (E : XK), A.guards = some [] → Room k (A.deeper (envOfC qual (defScope st) s.heap.objs.size f cdv)) → SSs (dX P w K mg base N qual (defScope st) f cdv A outer s H E) (dC ct ef E pr) (defBody st) fs) :
    FnG P w K mg base (L2.CX P w) (k + 1) f ps fd (spF ⟨K, ct, ef⟩ (runF pr N.length fs)) := by
  have hlen : ∀ vs H Q E, spF ⟨K, ct, ef⟩ (runF pr N.length fs) vs H Q E → vs.length = ps.length := by
    rintro vs H Q E ⟨xs, R, w1, rfl, h⟩
    rw [List.length_map]
    rw [← hl]
    by_cases hq : xs.length = pr.length
    · exact hq
    · unfold runF at h
      rw [len_erL, if_neg hq] at h
      exact h.elim
  obtain ⟨oc, od, kV, doc, pm, an, cdv, ctv, osl, rfl, lk, hcd⟩ := F.ex
  constructor
  intro A out1 s1 H1 ar us vs Q E gA room en bi va hq
  have eqL := hlen _ _ _ _ hq
  have older : ∀ b o, base.get? b = some o → s1.heap.get? b = some o := fun b o z => (en.bs b o z).1
  have inK := en.mod.kin.keeps older
  have unl := en.mod.nolimit.keeps older
  refine codeAny_call_function room.depth (inK _ _ lk) rfl S.co S.gen rfl (PySem.W.codeRec_of inK hcd) (bi _ _ _ _ ?_)
  refine wpAny_newFunctionEnv_cells S.kind (fun y hy => ?_) fun e1 he1 s2 inC => ?_
  · obtain ⟨n, v⟩ := y
    cases S.par n (List.of_mem_zip hy).1 with
    | inl q => exact .inl q
    | inr q => exact .inr ⟨q, PySem.W.cellsFrom_some _ _ _ (.inl q)⟩
  · cases he1
    refine ⟨unl.keeps inC.toInCall.keep, codeAny_func ?_⟩
    have room2 := room.deeper (envOfC qual (defScope st) s1.heap.objs.size f cdv)
    have body := (hb cdv A out1 s1 H1 E gA room2).run [] s2 (L2.start N vs) H1 { nx := fun _ H' => Q .non H', rt := Q } (inv_start S room.hd en eqL va inC) (spF_start S hl hlen hq)
    refine wpAny_mono body (fun fl s3 z => ?_) fun _ _ z => z
    match fl, z with
    | .ret u, ⟨v, σ3, H3, J, rv, q⟩ => exact ⟨v, H3, J.os, J.bare, J.base, J.hok, rv, q⟩
    | .next, ⟨σ3, H3, J, q⟩ => exact ⟨V.non, H3, J.os, J.bare, J.base, J.hok, rfl, q⟩
    | .brk, ⟨_, _, _, q⟩ => exact q.elim
    | .cont, ⟨_, _, _, q⟩ => exact q.elim
end
/-- the script's own object -/
def scrO (vs : List Value) : Obj := { cls := .type "list", data := .seq vs.toArray }
section
variable {P : Program} {w : World} {K : PySem.W.Frag} {mg mb : Str → Option Value} {k : Nat} {fa a : Addr} {fd : FuncData} {x : Str} {sp : Sp} {s : Shared} {vs : List Value} {ns : List Int} {H : Hp}
/-- the law's call, from an abstract heap that knows the script at most -/
theorem call_at (KX : K.In s.heap) (hns : s.heap.Ns mainGlobals mg) (hb : s.heap.Ns builtinsNs mb) (hbb : ∀ x : Str, x ≠ "__name__" → mb x = bootBuiltins x) (hlim : s.heap.NoLimit) (hg : s.gens = #[])
    (ha : s.heap.get? a = some (scrO vs)) (hr : Room k callerA)
    (F : ∀ base : Heap, K.In base → base.Ns mainGlobals mg → FnG P w K mg base (L2.CX P w) k fa [x] fd sp) (hbind : ∀ (s : Shared) (u : Value), BindsTo s fd ⟨[u], []⟩ [(x, u)])
    (hO : Only H) (hq : sp [.ref a] H (fun v _ => v = .bl true) fun _ _ _ => False) (hok : HOk P w H s.heap) (hA : ∀ b, H b ≠ none → b = a) (hK : H a ≠ none → K.lookup a = none) :
    codeAny (model P w) callerA (.call (.ref fa) ⟨[.ref a], []⟩) (fun r s' => r = .ok (.ret (.bool true)) ∧ OldK s.heap s'.heap ∧ s'.os = s.os ∧ AllBare s'.gens) s := by
  have free : ∀ {b : Addr}, b ≠ a → H b = none := fun {b} hne => by
    cases e : H b with
    | none => rfl
    | some o => exact absurd (hA b (by rw [e]; exact fun z => nomatch z)) hne
  have names : ∀ {b : Addr} {m : Str → Option Value}, s.heap.Ns b m → (hidT s.heap H).Ns b m := by
    rintro b m ⟨o, es, ep, e, d, r⟩
    refine ⟨o, es, ep, hidT_get e (free fun z => ?_), d, r⟩
    subst z
    rw [ha] at e
    cases e
    exact nomatch (show Data.seq vs.toArray _ = Data.dict es ep from d)
  have inK : K.In (hidT s.heap H) := fun b o e => by
    refine hidT_get (KX b o e) ?_
    by_cases z : b = a
    · subst z
      cases e2 : H b with
      | none => rfl
      | some u =>
        have := hK (by rw [e2]; exact fun z => nomatch z)
        rw [this] at e
        cases e
    · exact free z
  obtain ⟨mc, l1, l2⟩ := hlim
  have en : Env0 P w K mg (hidT s.heap H) callerA [] s H := {
    frames := rfl
    mod := ⟨inK, names hns, ⟨mb, names hb, hbb⟩, ⟨mc, names l1, l2⟩⟩
    bs := fun b o e => of_hidT e
    bsz := Nat.le_of_eq (hidT_size _ _)
    funs := trivial
    frf := fun b z => absurd (show b ∈ ([] : List Addr) from z) List.not_mem_nil
    hok := hok
    bare := .of_eq hg }
  have run := (F _ inK (names hns)).go callerA [] s H ⟨[.ref a], []⟩ [.ref a] [.ref a] _ _ rfl hr en (hbind s (.ref a)) (.cons rfl .nil) hq
  refine codeAny_mono run fun r s' z => ?_
  match r, z with
  | .error e, z =>
    obtain ⟨_, _, _, _, _, _, _, _, _, _, _, _, no⟩ := z
    exact no.elim
  | .ok .next, z => exact z.elim
  | .ok .brk, z => exact z.elim
  | .ok .cont, z => exact z.elim
  | .ok (.ret u), ⟨v, H', os, bare, un, hok', rv, q⟩ =>
    have q' : v = .bl true := q
    subst q'
    have eu : u = Value.bool true := rv
    subst eu
    refine ⟨rfl, OldK.of_keep fun b o e => ?_, os, bare⟩
    by_cases z : H b = none
    · exact un.keep b o e z (fun y => absurd (show b ∈ ([] : List Addr) from y) List.not_mem_nil) List.not_mem_nil
    · rcases hO b with y | ⟨ob, xs, y⟩
      · exact absurd y z
      · have e1 := (hok b _ y).1
        have e2 := (hok' b _ (un.frzs b ob _ y)).1
        rw [e] at e1
        cases e1
        exact e2
theorem call_law (KX : K.In s.heap) (hns : s.heap.Ns mainGlobals mg) (hb : s.heap.Ns builtinsNs mb) (hbb : ∀ x : Str, x ≠ "__name__" → mb x = bootBuiltins x) (hlim : s.heap.NoLimit) (hg : s.gens = #[])
    (ha : s.heap.get? a = some (scrO vs)) (hi : IntsAre vs ns) (hl : ns.length ≤ sizeLine) (hr : Room k callerA)
    (F : ∀ base : Heap, K.In base → base.Ns mainGlobals mg → FnG P w K mg base (L2.CX P w) k fa [x] fd sp) (hbind : ∀ (s : Shared) (u : Value), BindsTo s fd ⟨[u], []⟩ [(x, u)])
    (hsp : ∀ H : Hp, Only H → SqL K H a (ns.map V.int) → sp [.ref a] H (fun v _ => v = .bl true) fun _ _ _ => False) :
    codeAny (model P w) callerA (.call (.ref fa) ⟨[.ref a], []⟩) (fun r s' => r = .ok (.ret (.bool true)) ∧ OldK s.heap s'.heap ∧ s'.os = s.os ∧ AllBare s'.gens) s := by
  have rv := vals_ints hi
  by_cases hk : ∃ o, K.lookup a = some o
  · obtain ⟨o, hk⟩ := hk
    have e := (KX a o hk).symm.trans ha
    cases e
    have hO : Only (fun _ => none : Hp) := fun _ => .inl rfl
    refine call_at (H := fun _ => none) KX hns hb hbb hlim hg ha hr F hbind hO (hsp _ hO (.inr ⟨_, vs.toArray, _, hk, rfl, rfl, rfl, ?_, ?_⟩)) (fun b u z => nomatch (show (none : Option HO) = some u from z)) (fun b z => absurd rfl z) fun z => absurd rfl z
    · rw [List.size_toArray, hi.length]; exact hl
    · simpa using rv
  · have hk0 : K.lookup a = none := by
      cases e : K.lookup a with
      | none => rfl
      | some o => exact absurd ⟨o, e⟩ hk
    let H1 : Hp := fun b => if b = a then some (.frz (scrO vs) (.lst (ns.map V.int))) else none
    have at_a : H1 a = some (.frz (scrO vs) (.lst (ns.map V.int))) := if_pos rfl
    have off : ∀ {b : Addr}, b ≠ a → H1 b = none := fun hne => if_neg hne
    have hO : Only H1 := fun b => by
      by_cases z : b = a
      · rw [z]; exact .inr ⟨_, _, at_a⟩
      · exact .inl (off z)
    refine call_at (H := H1) KX hns hb hbb hlim hg ha hr F hbind hO (hsp _ hO (.inl (.inr ⟨_, at_a⟩))) (fun b u z => ?_) (fun b z => ?_) fun _ => hk0
    · by_cases y : b = a
      · subst y
        rw [at_a] at z
        cases z
        exact ⟨ha, by rw [List.length_map]; exact hl, vs, _, rv, ha⟩
      · rw [off y] at z
        cases z
    · by_cases y : b = a
      · exact y
      · exact absurd (off y) z
end
theorem walk_lawG {l : PySem.W.OpenLaw} {n k : Nat} {q : Program} {loose : List Str} {XP : (Str → Option Value) → Heap → Prop} {YP : World → Heap → Prop} {d : DefRec} {x : Str}
    (hn : l.most = some n) (hn2 : n ≤ sizeLine) (hdf : d.params.defaults = []) (hr : Room k callerA)
    (F : ∀ (w : World) (mg : Str → Option Value) (fa : Addr) (h : Heap), YP w h → h.Ns mainGlobals mg → mg d.name = some (.ref fa) →
      ∃ (K : PySem.W.Frag) (fd : FuncData) (ct : Nat → Addr) (ef : Nat → List Str) (f : CF), K.In h ∧ (∀ (s : Shared) (u : Value), BindsTo s fd ⟨[u], []⟩ [(x, u)]) ∧
        (∀ ns : List Int, ns.length ≤ n → (∀ z ∈ ns, Builtin.Int.intBits z ≤ 1048576) → ∃ ts, f [.nd .scr (ns.map T.int)] = .ret (.bl true) ts) ∧
        ∀ base : Heap, K.In base → base.Ns mainGlobals mg → FnG l.prog w K mg base (L2.CX l.prog w) k fa [x] fd (spF ⟨K, ct, ef⟩ f)) :
    PySem.W.WalkO q loose XP YP l.row.toRowW d [] (fun f vs => PySem.call f vs) := by
  refine Att.attach_callB hn hdf fun w s₀ s₁ mg mb fa o pm cd doc a vs ns G Y ho hd hcd hmg hobj hints hlen hbits hg => ?_
  obtain ⟨K, fd, ct, ef, f, KX, hb, hsp, hF⟩ := F w mg fa _ Y G.T.g hmg
  exact call_law KX G.T.g G.T.b G.T.builtins G.T.nolimit hg hobj hints (Nat.le_trans hlen hn2) hr hF hb fun H hO hS => law_end (hsp ns hlen hbits) hO hS
/-! ### repr -/
section
variable {X : Cx}
def rReprD (K : PySem.W.Frag) : List V → Hp → VK → Prop := fun xs H Q => ∃ (a : Addr) (d : PyData), xs = [.ref a] ∧ Dp K H (.ref a) d ∧ d.showable = true ∧ d.canLay0 = true ∧ d.depth ≤ 30 ∧ d.shown.length ≤ sizeLine ∧ Q (.str d.shown) H
theorem call_reprD (hg : X.A.guards = some []) (hu : X.A.units + 40 < cLine) : CallR X (.builtin "repr") (rReprD X.K) := by
  intro pins s σ H xs us Q I r h
  obtain ⟨a, d, rfl, dp, hs, hc, hd, hz, q⟩ := h
  obtain ⟨u, rfl, hu1⟩ := vals1 r
  obtain rfl : u = .ref a := hu1
  obtain ⟨as, rd⟩ := Dp.reads I d _ _ dp rfl
  exact PySem.repr_of_reads' rd hs (PyData.noDict_hsm (PyData.hasDict_of_canLay d hc)) hg (by omega) (fun b o e => e) (fun h' t tk hk => ⟨.str d.shown, H, I.kept hk, ⟨t, rfl⟩, q⟩) hz
def gRepr : List T → Option T
  | [.nd k xs] => match pd (.nd k xs) with
    | some d => if d.showable && d.canLay0 && decide (d.depth ≤ 30) && decide (d.shown.length ≤ sizeLine) then some (.str d.shown) else none
    | none => none
  | _ => none
theorem sim_reprD {B : Tab} : SimL B (rReprD B.K) gRepr := fun H xs R t Q w e hz => by
  unfold gRepr at e
  split at e
  · rename_i k ys eu
    obtain ⟨r, rfl, er1⟩ := er_one eu
    split at e
    · rename_i d ed
      split at e
      · rename_i hc
        cases e
        simp only [Bool.and_eq_true, decide_eq_true_eq] at hc
        obtain ⟨⟨⟨c1, c2⟩, c3⟩, c4⟩ := hc
        obtain ⟨w1, a1, d1, zs, rfl, rfl⟩ := er_nd er1
        have ok : Ok B H (.nd k w1 a1 d1 zs) := w.head
        exact ⟨a1, d, rfl, dp_of _ d ok (by rw [er]; exact ed), c1, c2, c3, c4, hz (.str _) H rfl w.drop.str⟩
      · cases e
    · cases e
  · cases e
end
end Tr
end

section
set_option Elab.async false
set_option linter.all false
set_option autoImplicit false
set_option maxRecDepth 100000
set_option maxHeartbeats 1000000
/-! Several except clauses, with and without a name. -/
namespace Tr
open PySem PySem.Spec PyProof.Rows L2
/-- the ends of a suite that holds its exception in slot i -/
def endN (i : Nat) (D : Ends) : Ends where
  nx := fun σ H => D.nx (σ.set i none) H
  rt := D.rt
  bk := fun σ H => D.bk (σ.set i none) H
  ct := fun σ H => D.ct (σ.set i none) H
abbrev HdTS := Value × (Addr → Value → Option Addr → TS)
/-- the clauses and what their suites ask -/
inductive HdsN (X : Cx) : List ExceptHandler → List HdTS → Prop where
  | nil : HdsN X [] []
  | only {x : Str} {c : Value} {ts : Addr → Value → Option Addr → TS} {st : Stmt} {sts : List Stmt} {p1 p2 : Pos} {hds : List ExceptHandler} {l : List HdTS} (nm : Names X x c)
      (ok : ∀ (a : Addr) (oe : Obj) (cls : Value) (d : Option Addr) (pn : List (Addr × Obj)), Zc cls d oe → (∃ vs, oe.data = .fields vs) → PSs (X.suite a ((a, oe) :: pn)) (st :: sts) (ts a cls d)) (more : HdsN X hds l) :
      HdsN X (.ExceptHandler (some (.Name x p1)) none (st :: sts) p2 :: hds) ((c, ts) :: l)
  | as (i : Nat) {n x : Str} {c : Value} {ts : Addr → Value → Option Addr → TS} {st : Stmt} {sts : List Stmt} {p1 p2 : Pos} {hds : List ExceptHandler} {l : List HdTS} (nd : X.N.Nodup) (at_ : X.N[i]? = some n) (loc : X.env.kindOf n = some .local) (nm : Names X x c)
      (ok : ∀ (a : Addr) (oe : Obj) (cls : Value) (d : Option Addr) (pn : List (Addr × Obj)), Zc cls d oe → (∃ vs, oe.data = .fields vs) → PSs (X.suite a ((a, oe) :: pn)) (st :: sts) (ts a cls d)) (more : HdsN X hds l) :
      HdsN X (.ExceptHandler (some (.Name x p1)) (some n) (st :: sts) p2 :: hds) ((c, fun a cls d D σ H => ts a cls d (endN i D) (σ.set i (some (.ref a))) H) :: l)
section
variable {X : Cx} {body : List Stmt} {hd : ExceptHandler} {hds : List ExceptHandler} {l : List HdTS} {pos : Pos} {tb : WX → TS} {Wo : WX}
theorem ps_tryN (hs : X.stack = X.env :: X.outer) (hf : X.env.frame = some X.env.locals) (tk : Takes X Wo)
    (hb : ∀ (W : WX) (pn : List (Addr × Obj)) (xe : Value → Shared → Prop), Takes (X.tr pn xe) W → PassesOwn (model X.prog X.w) X.A X.env xe → PSs (X.tr pn xe) body (tb W))
    (hh : HdsN X (hd :: hds) l) : PS X (.Try body (hd :: hds) [] [] pos) (fun D σ H => tb (wMany X.K Wo D l) D σ H) := by
  constructor
  intro pins s σ H D I h
  have iok := I.ok
  have frs1 : X.A.frames = some (X.env :: X.outer) := by rw [iok.frames, hs]
  refine wpAny_Try_except ?_
  let catch_ : Value → Shared → Prop := fun e s₁ => wpAny (model X.prog X.w) X.A (noteFrame e X.env) (fun _ s₂ => wpAny (model X.prog X.w) X.A (setFlight e none) (fun _ s₃ => wpAny (model X.prog X.w) X.A (handleBy e X.env (hd :: hds)) (SP X pins D) X.xe s₃) X.xe s₂) X.xe s₁
  have goes := (hb (wMany X.K Wo D l) (X.pn ++ pins) catch_ (fun u s' raised => ?_) PassesOwn.looking).run [] s σ H D (I.toTry _) h
  · refine wpAny_mono goes (fun f s1 z => ?_) fun e s1 z => z
    match f, z with
    | .next, ⟨σ1, H1, J1, q⟩ => exact wpAny_execs_nil ⟨σ1, H1, J1.ofTry iok, q⟩
    | .brk, ⟨σ1, H1, J1, q⟩ => exact ⟨σ1, H1, J1.ofTry iok, q⟩
    | .cont, ⟨σ1, H1, J1, q⟩ => exact ⟨σ1, H1, J1.ofTry iok, q⟩
    | .ret u, ⟨v, σ1, H1, J1, r, q⟩ => exact ⟨v, σ1, H1, J1.ofTry iok, r, q⟩
  · -- what was raised
    obtain ⟨a, B, sI, _, σ1, H1, cls, d, rfl, J0, nb, up, sky, na, os, ag, wish⟩ := raised
    have J1 : Inv X pins σ1 H1 sI := J0.ofTry iok
    rw [hs] at sky
    show wpAny (model X.prog X.w) X.A (noteFrame (.ref a) X.env) _ _ _
    refine Sky.land Zc.steady frs1 hf sky fun h1 fl up1 => ?_
    have JA : Inv X pins σ1 H1 { s' with heap := h1 } := J1.landed nb fl.1 (up.trans up1) os ag
    obtain ⟨o1, vs1, at1, z1, dt1⟩ := fl.there
    have off : a ∉ frs (X.env :: X.outer) := fun hm => by
      obtain ⟨_, o2, at2, nf⟩ := fl.2.2.1.mem hm
      cases at1.symm.trans at2
      exact nf _ dt1
    have offL : a ≠ X.env.locals := fun z => off (List.mem_filterMap.mpr ⟨X.env, List.mem_cons_self, hf.trans (congrArg _ z.symm)⟩)
    have offF : a ∉ X.fs := fun hm => by
      obtain ⟨e, he, q⟩ := List.mem_filterMap.mp hm
      exact off (List.mem_filterMap.mpr ⟨e, List.mem_cons_of_mem _ he, q⟩)
    have JS := JA.suite at1 dt1 na offL offF
    -- the test of a clause
    have asks : ∀ {x : Str} {c : Value} {p : Pos} {Q : Value → Shared → Prop} {E : Value → Shared → Prop}, Names X x c → Q c { s' with heap := h1 } → wpAny (model X.prog X.w) (X.A.mark (some (.ref a))) (eval (.Name x p) X.env) Q E { s' with heap := h1 } := by
      rintro x c p Q E ⟨gl, dbg, known⟩ q
      rcases known with hm | ⟨hm, hv, hnn⟩
      · exact ld_glob (X := X.suite a ((a, o1) :: (X.pn ++ pins))) JS gl hm q dbg
      · exact ld_blt (X := X.suite a ((a, o1) :: (X.pn ++ pins))) JS gl hm hv q hnn dbg
    have kinds : PySem.W.Looks (model X.prog X.w) h1 (typeOf (.ref a)) cls := fun A Q E s k q => wpAny_typeOf_ref (k _ _ at1) (by rw [z1.1]; exact q)
    suffices all : ∀ {hs2 : List ExceptHandler} {l2 : List HdTS}, HdsN X hs2 l2 → wMany X.K Wo D l2 cls d σ1 H1 → wpAny (model X.prog X.w) X.A (handleBy (.ref a) X.env hs2) (SP X pins D) X.xe { s' with heap := h1 } from all hh wish
    intro hs2 l2 hk
    induction hk with
    | nil =>
      intro out
      obtain ⟨_, _, _, oe, vs, tb1, _, _, at2, _, dt2, fld, _⟩ := id fl
      have on : wpAny (model X.prog X.w) X.A (setFlight (.ref a) X.env.frame) (fun _ s4 => wpAny (model X.prog X.w) X.A (throw (.ref a) : Sem Flow) (SP X pins D) X.xe s4) X.xe { s' with heap := h1 } := by
        rw [hf]
        refine HandSPX.setFlight_upZ fl fun h2 hh2 up2 => wpAny_throw (tk _ _ ⟨a, B, sI, pins, σ1, H1, cls, d, rfl, J1, nb, (up.trans up1).trans up2, .inr (.inr ?_), na, os, ag, out⟩)
        rw [hs]
        exact hh2
      refine wpAny_handleBy_nil ?_
      unfold PySem.passOn
      refine wpAny_bind (wpAny_field at2 dt2 fld ?_)
      rw [if_neg (by simp : ¬ ((Value.ref tb1 == Value.none) = true))]
      first
        | exact wpAny_bind on
        | exact wpAny_bind (wpAny_pure (wpAny_bind on))
    | only nm ok more ih =>
      rintro ⟨b, eb, yes, no⟩
      have mt := PySem.W.exm_one (M := model X.prog X.w) JA.kIn kinds eb
      refine wpAny_handleBy_cons (codeAny_handlers_test (asks nm (mt.here ?_))) fun q => nomatch q
      match b, yes, no with
      | false, _, no => exact ih (no rfl)
      | true, yes, _ =>
        refine codeAny_handlers_suite (HandSPX.lands_againZ fl fun h2 fl2 up2 => ?_)
        obtain ⟨o2, vs2, at2, z2, dt2⟩ := fl2.there
        have JR : Inv X pins σ1 H1 { s' with heap := h2 } := J1.landed nb fl2.1 ((up.trans up1).trans up2) os ag
        have JT := JR.suite at2 dt2 na offL offF
        refine wpAny_mono ((ok a o2 cls d (X.pn ++ pins) z2 ⟨_, dt2⟩).run [] _ _ H1 _ JT (yes rfl a na)) (fun f s6 z => ?_) fun _ _ z => z.elim
        match f, z with
        | .next, ⟨σ6, H6, S6, q6⟩ => exact ⟨_, _, S6.unsuite iok, q6⟩
        | .brk, ⟨σ6, H6, S6, q6⟩ => exact ⟨_, _, S6.unsuite iok, q6⟩
        | .cont, ⟨σ6, H6, S6, q6⟩ => exact ⟨_, _, S6.unsuite iok, q6⟩
        | .ret u, ⟨v6, σ6, H6, S6, r6, q6⟩ => exact ⟨_, _, _, S6.unsuite iok, r6, q6⟩
    | as i nd at_ loc nm ok more ih =>
      rintro ⟨b, eb, yes, no⟩
      have mt := PySem.W.exm_one (M := model X.prog X.w) JA.kIn kinds eb
      refine wpAny_handleBy_cons (codeAny_handlers_test (asks nm (mt.here ?_))) fun q => nomatch q
      match b, yes, no with
      | false, _, no => exact ih (no rfl)
      | true, yes, _ =>
        refine codeAny_handlers_suite_as (HandSPX.lands_againZ fl fun h2 fl2 up2 => ?_)
        obtain ⟨o2, vs2, at2, z2, dt2⟩ := fl2.there
        have JR : Inv X pins σ1 H1 { s' with heap := h2 } := J1.landed nb fl2.1 ((up.trans up1).trans up2) os ag
        have JT := JR.suite at2 dt2 na offL offF
        refine store_ok (X := X.suite a ((a, o2) :: (X.pn ++ pins))) (v := .ref a) JT nd at_ (.inl loc) rfl (fun s5 S5 => ?_) (.inr loc)
        refine wpAny_mono ((ok a o2 cls d (X.pn ++ pins) z2 ⟨_, dt2⟩).run [] s5 _ H1 _ S5 (yes rfl a na)) (fun f s6 z => ?_) fun _ _ z => z.elim
        match f, z with
        | .next, ⟨σ6, H6, S6, q6⟩ => exact gone_ok (S6.unsuite iok) nd at_ loc fun s7 J7 => ⟨_, _, J7, q6⟩
        | .brk, ⟨σ6, H6, S6, q6⟩ => exact gone_ok (S6.unsuite iok) nd at_ loc fun s7 J7 => ⟨_, _, J7, q6⟩
        | .cont, ⟨σ6, H6, S6, q6⟩ => exact gone_ok (S6.unsuite iok) nd at_ loc fun s7 J7 => ⟨_, _, J7, q6⟩
        | .ret u, ⟨v6, σ6, H6, S6, r6, q6⟩ => exact gone_ok (S6.unsuite iok) nd at_ loc fun s7 J7 => ⟨_, _, _, J7, r6, q6⟩
end
/-! ### on trees -/
abbrev HS := Ex → Env → SO
def hdGo : List (EM × HS) → Ex → FS
  | [], e => fun ρ => .exc e ρ
  | (em, h) :: r, e => fun ρ => match em e.c with
    | some true => h e ρ
    | some false => hdGo r e ρ
    | none => .bad
def sTryN (l : List (EM × HS)) (body : FS) : FS := fun ρ => match body ρ with
  | .exc e ρ' => hdGo l e ρ'
  | o => o
def hOnly (fs : FS) : HS := fun _ ρ => noXs fs ρ
def hAs (i : Nat) (g : Ex → Option T) : HS := fun e ρ => match g e with
  | some t => if i < ρ.length then .ret t (ρ.set i none) else .bad
  | none => .bad
/-- a clause -/
structure HdOne (X : Cx) (c : Cu) (h : ExceptHandler) (em : EM) (hs : HS) (en : HdTS) : Prop where
  link : ∀ {hds : List ExceptHandler} {l : List HdTS}, HdsN X hds l → HdsN X (h :: hds) (en :: l)
  emOk : ∀ k b, em k = some b → PySem.W.exmOne X.K (.ref (c.ct k)) en.1 = some b
  go : ∀ {σ σ' : L2.St} {H' : Hp} {ρ' : Env} {R : List A} {D : Ends} {e : Ex} {d : Option Addr}, em e.c = some true → PostS X c σ R D (hs e ρ') → SI X c σ' H' ρ' R → Keep c σ σ' → ExOk (tab X c) H' e (.ref (c.ct e.c)) d → ∀ a, H' a = none → en.2 a (.ref (c.ct e.c)) d D σ' H'
inductive Hds (X : Cx) (c : Cu) : List ExceptHandler → List (EM × HS) → List HdTS → Prop where
  | nil : Hds X c [] [] []
  | cons {h : ExceptHandler} {em : EM} {hs : HS} {en : HdTS} {hds : List ExceptHandler} {l : List (EM × HS)} {les : List HdTS} : HdOne X c h em hs en → Hds X c hds l les → Hds X c (h :: hds) ((em, hs) :: l) (en :: les)
section
variable {X : Cx} {c : Cu} {x : Str} {cn : Nat} {em : EM} {fb : FS} {body suite : List Stmt} {b₀ : Stmt} {np pos pos' : Pos}
theorem Hds.named {hds : List ExceptHandler} {l : List (EM × HS)} {les : List HdTS} (h : Hds X c hds l les) : HdsN X hds les := by
  induction h with
  | nil => exact .nil
  | cons o _ ih => exact o.link ih
theorem Hds.many {σ σ' : L2.St} {H' : Hp} {ρ' : Env} {R : List A} {D : Ends} {e : Ex} {d : Option Addr} {hds : List ExceptHandler} {l : List (EM × HS)} {les : List HdTS} (h : Hds X c hds l les) (P : PostS X c σ R D (hdGo l e ρ')) (I : SI X c σ' H' ρ' R) (k : Keep c σ σ') (E : ExOk (tab X c) H' e (.ref (c.ct e.c)) d) :
    wMany X.K c.X D les (.ref (c.ct e.c)) d σ' H' := by
  induction h with
  | nil => exact P σ' H' _ d I k E
  | @cons h em hs en hds l les o _ ih =>
    unfold hdGo at P
    cases he : em e.c with
    | none => rw [he] at P; exact P.elim
    | some b =>
      rw [he] at P
      refine ⟨b, o.emOk _ _ he, fun hbt a na => ?_, fun hbf => ?_⟩
      · subst hbt
        exact o.go he P I k E a na
      · subst hbf
        exact ih P
theorem ss_tryN {hd : ExceptHandler} {hds : List ExceptHandler} {l : List (EM × HS)} {les : List HdTS} (hh : Hds X c (hd :: hds) l les) (hs : X.stack = X.env :: X.outer) (hf : X.env.frame = some X.env.locals) (tk : Takes X c.X)
    (hb : ∀ (W : WX) (pn : List (Addr × Obj)) (xe : Value → Shared → Prop), Takes (X.tr pn xe) W → PassesOwn (model X.prog X.w) X.A X.env xe → SSs (X.tr pn xe) (cW c W) body fb) :
    SS X c (.Try body (hd :: hds) [] [] pos) (sTryN l fb) :=
  ps_imp (ps_tryN (tb := fun W => SSr X (cW c W) fb) hs hf tk (fun W pn xe t p => hb W pn xe t p) hh.named) fun D σ H h => by
    obtain ⟨ρ, R, I, P⟩ := h
    refine ⟨ρ, R, I, ?_⟩
    unfold sTryN at P
    cases hbo : fb ρ with
    | exc e ρ' =>
      rw [hbo] at P
      intro σ' H' cls d I' k E
      obtain ⟨rfl, E2⟩ := E
      exact hh.many P I' ⟨k.len, k.at_⟩ ⟨rfl, E2⟩
    | _ => rw [hbo] at P; exact P.toW fun _ _ z => nomatch z
theorem hd_only {fs : FS} (hem : EmOk X.K c.ct cn em) (hc : Names X x (.ref (c.ct cn)))
    (hsu : ∀ (a : Addr) (oe : Obj) (cls : Value) (d : Option Addr) (pn : List (Addr × Obj)), Zc cls d oe → (∃ vs, oe.data = .fields vs) → SSs (X.suite a ((a, oe) :: pn)) (c0 c) (b₀ :: suite) fs) :
    HdOne X c (.ExceptHandler (some (.Name x np)) none (b₀ :: suite) pos') em (hOnly fs) (.ref (c.ct cn), fun _ _ _ => SSr X (c0 c) fs) where
  link := fun m => .only hc (fun a oe cls d pn z f => hsu a oe cls d pn z f) m
  emOk := hem
  go := fun {σ σ' H' ρ' R D e d} _ P I k _ a na => by
    refine ⟨ρ', R, I, ?_⟩
    unfold hOnly noXs at P
    have P2 := P.shift (σ' := σ') k
    cases hfs : fs ρ' with
    | exc e2 ρ2 => rw [hfs] at P2; exact P2.elim
    | _ => rw [hfs] at P2; exact P2.toW (W := fun _ _ _ _ => False) fun _ _ z => nomatch z
theorem hd_as (i : Nat) {n : Str} {fs : Addr → Option Addr → Ex → FS} {g : Ex → Option T} (hem : EmOk X.K c.ct cn em) (hN : X.N.Nodup) (hp : c.pr i = false) (hi : X.N[i]? = some n) (hln : X.env.kindOf n = some .local) (hc : Names X x (.ref (c.ct cn)))
    (hsu : ∀ (a : Addr) (oe : Obj) (e : Ex) (d : Option Addr) (pn : List (Addr × Obj)), em e.c = some true → (∃ t, g e = some t) → Zc (.ref (c.ct e.c)) d oe → (e.fs = [] → d = none) → (∃ vs, oe.data = .fields vs) → SSs (X.suite a ((a, oe) :: pn)) (c0 c) (b₀ :: suite) (fs a d e))
    (hg : ∀ (a : Addr) (d : Option Addr) (e : Ex) (ρ : Env) (t : T), em e.c = some true → i < ρ.length → g e = some t → (e.fs ≠ [] → ∃ dd, d = some dd) → (c.ef e.c).length = e.fs.length ∨ e.fs = [] → ∃ ρ2, fs a d e (ρ.set i (some (exT a d (c.ef e.c) e))) = .ret t ρ2 ∧ ρ2.set i none = ρ.set i none) :
    HdOne X c (.ExceptHandler (some (.Name x np)) (some n) (b₀ :: suite) pos') em (hAs i g) (.ref (c.ct cn), fun a cls d D σ H => (∃ e : Ex, cls = .ref (c.ct e.c) ∧ em e.c = some true ∧ (∃ t, g e = some t) ∧ (e.fs = [] → d = none) ∧ SSr X (c0 c) (fs a d e) (endN i D) (σ.set i (some (.ref a))) H)) where
  link := fun m => HdsN.as i (ts := fun a cls d D σ H => ∃ e : Ex, cls = .ref (c.ct e.c) ∧ em e.c = some true ∧ (∃ t, g e = some t) ∧ (e.fs = [] → d = none) ∧ SSr X (c0 c) (fs a d e) D σ H) hN hi hln hc (fun a oe cls d pn z f => ⟨fun pins s σ H D I q => by
    obtain ⟨e, rfl, h1, h3, h2, q'⟩ := q
    exact (hsu a oe e d pn h1 h3 z h2 f).run pins s σ H D I q'⟩) m
  emOk := hem
  go := fun {σ σ' H' ρ' R D e d} he P I' k E a na => by
    obtain ⟨_, E2⟩ := E
    unfold hAs at P
    cases hgt : g e with
    | none => rw [hgt] at P; exact P.elim
    | some t =>
      rw [hgt] at P
      dsimp only at P
      split at P
      · rename_i hlt
        have hdd : e.fs ≠ [] → ∃ dd, d = some dd := fun z => by
          rcases E2 with ⟨q1, _⟩ | ⟨_, dd, _, q1, _⟩
          · exact absurd q1 z
          · exact ⟨dd, q1⟩
        have hll : (c.ef e.c).length = e.fs.length ∨ e.fs = [] := by
          rcases E2 with ⟨q1, _⟩ | ⟨_, dd, vs, _, q2, q3, _⟩
          · exact .inr q1
          · obtain ⟨xs, x1, x2, _⟩ := erL_atoms q2
            refine .inl ?_
            rw [show (c.ef e.c).length = vs.length from q3, ← x1, ← x2, List.length_map, len_erL]
        obtain ⟨ρ2, e1, e2⟩ := hg a d e ρ' t he hlt hgt hdd hll
        have root : ∃ r : A, er r = exT a d (c.ef e.c) e ∧ val r = .ref a ∧ SI X c σ' H' ρ' (r :: R) := by
          unfold exT
          rcases E2 with ⟨q1, q2⟩ | ⟨q0, dd, vs, q1, q2, q3, q4⟩
          · rw [if_pos q1]
            exact ⟨.cst (.ref a), rfl, rfl, I'.imp fun S w => w.atom rfl rfl trivial⟩
          · rw [if_neg q0, q1]
            obtain ⟨xs, x1, x2, x3, x4, x5⟩ := erL_atoms q2
            refine ⟨.nd (.exc a dd (c.ef e.c)) false a dd xs, by rw [er, x1]; rfl, rfl, I'.imp fun S w => ?_⟩
            refine ⟨⟨⟨⟨rfl, rfl, rfl, by rw [x2]; exact q3, by rw [x2]; exact q4⟩, x5 _ _, fun _ => x3⟩, w.ok⟩, ?_, ?_⟩
            · show (ownL (A.nd (.exc a dd (c.ef e.c)) false a dd xs :: (R ++ S))).Nodup
              rw [ownL, own, x3]
              exact w.nd
            · intro b hb
              have hb : b ∈ ownL (A.nd (.exc a dd (c.ef e.c)) false a dd xs :: (R ++ S)) := hb
              show b ∉ frzL (A.nd (.exc a dd (c.ef e.c)) false a dd xs :: (R ++ S))
              rw [ownL, own, x3] at hb
              have hb' : b ∈ ownL (R ++ S) := hb
              rw [frzL, frz, x4, List.append_nil, List.mem_append]
              rintro (z | z)
              · have zb : b = dd := by simpa [frzN, NK.m] using z
                obtain ⟨y, hy, hby⟩ := mem_ownL.mp hb'
                rw [zb] at hby
                exact own_not_xd (okL_iff.mp w.ok y hy) dd hby _ q4
              · exact w.ap b hb' z
        obtain ⟨r, r1, r2, I2⟩ := root
        have hd : e.fs = [] → d = none := fun z => by
          rcases E2 with ⟨q1, q2⟩ | ⟨q0, _⟩
          · exact q2
          · exact absurd z q0
        refine ⟨e, rfl, he, ⟨_, hgt⟩, hd, ρ'.set i (some (exT a d (c.ef e.c) e)), R, ?_, ?_⟩
        · have I3 := I2.setv i
          rw [r1, r2] at I3
          exact I3
        · rw [e1]
          intro r5 σ2 H2 e5 I5 k5
          refine P r5 σ2 H2 e5 ?_ (Keep.trans k (Keep.trans (Keep.set hp) ⟨k5.len, k5.at_⟩))
          rw [← e2]
          exact I5.unset i
      · exact P.elim
end
/-! ### a field of the held exception -/
def fXf (i : Nat) (a : Addr) (d : Option Addr) (n : Str) : M T := fun ρ => match ρ[i]? with
  | some (some (.nd (.exc a' dd ns) xs)) => if a' = a ∧ d = some dd then match kpos n ns with
    | some j => match xs[j]? with
      | some x => match atomV x with
        | some _ => .ok x ρ
        | none => .bad
      | none => .bad
    | none => .bad
    else .bad
  | _ => .bad
section
variable {X : Cx} {c : Cu} {a C : Addr} {oe : Obj} {d : Option Addr} {pn : List (Addr × Obj)} {n m : Str} {p pos : Pos}
theorem se_xf (i : Nat) (T : XfC X.K C) (hno : PySem.W.findIn X.K (.ref C) m = some none) (hz : Zc (.ref C) d oe) (hf : ∃ vs, oe.data = .fields vs) (hN : X.N[i]? = some n := by rfl) (hv : Vis X.env.scope n := by first | exact Or.inl rfl | exact Or.inr (Or.inl rfl) | exact Or.inr (Or.inr rfl))
    (hd : (n == ("__debug__" : Str)) = false := by decide) (hcd : (n == ("__classdict__" : Str)) = false := by decide) (hb : attributeBase (.Name n p) m X.env (eval (.Name n p) X.env) = eval (.Name n p) X.env := by rfl) :
    SE (X.suite a ((a, oe) :: pn)) c (.Attribute (.Name n p) m pos) (fXf i a d m) :=
  pe_imp (pe_xf (X := X) T hno hz hf (pe_var (X := X.suite a ((a, oe) :: pn)) hN hv hd hcd) hb) fun σ H Q h => by
    obtain ⟨ρ, R, I, P⟩ := h
    unfold fXf at P
    split at P
    · rename_i a' dd ns xs hx
      split at P
      · rename_i hc
        obtain ⟨rfl, rfl⟩ := hc
        split at P
        · rename_i j hj
          split at P
          · rename_i x hxj
            split at P
            · rename_i v ev
              obtain ⟨ρA, e, mm, w⟩ := id I
              rw [← e] at hx
              obtain ⟨r, hr, et⟩ := erE_some hx
              have okr : Ok (tab X c) H r := okL_iff.mp w.ok r (List.mem_append_left _ ((slots_take hr).symm.subset List.mem_cons_self))
              obtain ⟨w1, a1, d1, zs, rfl, ez⟩ := er_nd et
              obtain ⟨⟨_, h1, h2, h3, h4⟩, okz, _⟩ := okr
              subst h1 h2
              have hzj : ∃ z, zs[j]? = some z ∧ er z = x := by
                rw [← ez, erL_get] at hxj
                cases hq : zs[j]? with
                | none => rw [hq] at hxj; cases hxj
                | some z => rw [hq] at hxj; exact ⟨z, rfl, Option.some.inj hxj⟩
              obtain ⟨z, hz1, hz2⟩ := hzj
              refine ⟨.ref a', mm.at_ i _ hr, rfl, rfl, dd, _, val z, rfl, h4, ?_, ?_⟩
              · rw [lookup_zip h3, hj, Option.bind_some, List.getElem?_map, hz1]
                rfl
              · have za := atom_a (r := z) (by rw [hz2, ev]; rfl)
                exact P z H hz2 (I.imp fun S w => w.atom za.1 za.2.1 (za.2.2 _ _))
            · exact P.elim
          · exact P.elim
        · exact P.elim
      · exact P.elim
    · exact P.elim
end
/-! ### suites that are one return -/
abbrev FA (α : Type) := Addr → Option Addr → Ex → M α
def SuX {α : Type} (i : Nat) (ns : List Str) (F : FA α) (g : Ex → Option α) : Prop := ∀ (a : Addr) (d : Option Addr) (e : Ex) (ρ : Env) (t : α), i < ρ.length → (e.fs ≠ [] → ∃ dd, d = some dd) → g e = some t → F a d e (ρ.set i (some (exT a d ns e))) = .ok t (ρ.set i (some (exT a d ns e)))
abbrev SuV (i : Nat) (ns : List Str) (F : FA T) (g : Ex → Option T) : Prop := SuX i ns F g
abbrev SuB (i : Nat) (ns : List Str) (F : FA Bool) (g : Ex → Option Bool) : Prop := SuX i ns F g
abbrev SuL (i : Nat) (ns : List Str) (F : FA (List T)) (g : Ex → Option (List T)) : Prop := SuX i ns F g
section
variable {i : Nat} {ns : List Str} {F A B : FA T} {C E : FA Bool} {L : FA (List T)} {g ga gb : Ex → Option T} {gc ge : Ex → Option Bool} {gl : Ex → Option (List T)}
theorem suv_ret (t : T) : SuV i ns (fun _ _ _ => M.ret t) (fun _ => some t) := fun a d e ρ u _ _ h => by cases h; rfl
def gvIs : Ex → Option T := fun e => if e.fs = [] then some (.bl true) else none
theorem gvIs_fs {e : Ex} {t : T} (h : gvIs e = some t) : e.fs = [] := by
  unfold gvIs at h
  split at h
  · assumption
  · cases h
theorem suv_isE : SuV i ns (fun a _ _ => fIsE i a true) gvIs := fun a d e ρ t hi _ h => by
  have hf := gvIs_fs h
  unfold gvIs at h
  rw [if_pos hf] at h
  cases h
  unfold fIsE
  dsimp only
  rw [List.getElem?_set_self hi]
  have : excAt (exT a d ns e) = some a := by unfold exT; rw [if_pos hf]; rfl
  show (if excAt (exT a d ns e) = some a then _ else _) = _
  rw [if_pos this]
def gvXf : Ex → Option T := fun e => match e.fs with
  | [x] => if (atomV x).isSome then some x else none
  | _ => none
theorem suv_xf (m : Str) : SuV i [m] (fun a d _ => fXf i a d m) gvXf := fun a d e ρ t hi hd h => by
  unfold gvXf at h
  split at h
  · rename_i x hfs
    split at h
    · rename_i hx
      cases h
      have hne : e.fs ≠ [] := by rw [hfs]; exact fun z => nomatch z
      obtain ⟨dd, rfl⟩ := hd hne
      unfold fXf
      dsimp only
      rw [List.getElem?_set_self hi]
      have et : exT a (some dd) [m] e = .nd (.exc a dd [m]) [t] := by unfold exT; rw [if_neg hne, hfs]; rfl
      rw [et]
      dsimp only
      have ek : kpos m [m] = some 0 := by rw [kpos, if_pos rfl]
      rw [if_pos ⟨rfl, rfl⟩, ek]
      dsimp only
      cases hv : atomV t with
      | none => rw [hv] at hx; cases hx
      | some v =>
        show (match atomV t with
          | some _ => Rs.ok t _
          | none => .bad) = _
        rw [hv]
    · cases h
  · cases h
def gvAnd (ga gb : Ex → Option T) : Ex → Option T := fun e => match ga e with
  | some (.bl true) => gb e
  | some (.bl false) => some (.bl false)
  | _ => none
theorem suv_and (h1 : SuV i ns A ga) (h2 : SuV i ns B gb) : SuV i ns (fun a d e => vAnd (A a d e) (B a d e)) (gvAnd ga gb) := fun a d e ρ t hi hd h => by
  unfold gvAnd at h
  unfold vAnd
  split at h
  · rename_i q
    show ((A a d e) (ρ.set i _)).bind _ = _
    rw [h1 a d e ρ _ hi hd q]
    exact h2 a d e ρ t hi hd h
  · rename_i q
    cases h
    show ((A a d e) (ρ.set i _)).bind _ = _
    rw [h1 a d e ρ _ hi hd q]
    rfl
  · cases h
def gbVal (g : Ex → Option T) : Ex → Option Bool := fun e => match g e with
  | some (.bl b) => some b
  | _ => none
theorem sub_val (h1 : SuV i ns A ga) : SuB i ns (fun a d e => fTest (A a d e)) (gbVal ga) := fun a d e ρ t hi hd h => by
  unfold gbVal at h
  split at h
  · rename_i b q
    cases h
    show ((A a d e) (ρ.set i _)).bind _ = _
    rw [h1 a d e ρ _ hi hd q]
    rfl
  · cases h
def gbAnd (ga gb : Ex → Option Bool) : Ex → Option Bool := fun e => match ga e with
  | some true => gb e
  | some false => some false
  | none => none
theorem sub_and (h1 : SuB i ns C gc) (h2 : SuB i ns E ge) : SuB i ns (fun a d e => bAnd (C a d e) (E a d e)) (gbAnd gc ge) := fun a d e ρ t hi hd h => by
  unfold gbAnd at h
  split at h
  · rename_i q
    show ((C a d e) (ρ.set i _)).bind _ = _
    rw [h1 a d e ρ _ hi hd q]
    exact h2 a d e ρ t hi hd h
  · rename_i q
    cases h
    show ((C a d e) (ρ.set i _)).bind _ = _
    rw [h1 a d e ρ _ hi hd q]
    rfl
  · cases h
def gvIf (gc : Ex → Option Bool) (ga gb : Ex → Option T) : Ex → Option T := fun e => match gc e with
  | some true => ga e
  | some false => gb e
  | none => none
theorem suv_if (h0 : SuB i ns C gc) (h1 : SuV i ns A ga) (h2 : SuV i ns B gb) : SuV i ns (fun a d e => fIf (C a d e) (A a d e) (B a d e)) (gvIf gc ga gb) := fun a d e ρ t hi hd h => by
  unfold gvIf at h
  split at h
  · rename_i q
    show ((C a d e) (ρ.set i _)).bind _ = _
    rw [h0 a d e ρ _ hi hd q]
    exact h1 a d e ρ t hi hd h
  · rename_i q
    show ((C a d e) (ρ.set i _)).bind _ = _
    rw [h0 a d e ρ _ hi hd q]
    exact h2 a d e ρ t hi hd h
  · cases h
theorem sul_nil : SuL i ns (fun _ _ _ => fNil) (fun _ => some []) := fun a d e ρ u _ _ h => by cases h; rfl
def glCons (g : Ex → Option T) (gl : Ex → Option (List T)) : Ex → Option (List T) := fun e => match g e, gl e with
  | some x, some xs => some (x :: xs)
  | _, _ => none
theorem sul_cons (h1 : SuV i ns A ga) (h2 : SuL i ns L gl) : SuL i ns (fun a d e => fCons (A a d e) (L a d e)) (glCons ga gl) := fun a d e ρ t hi hd h => by
  unfold glCons at h
  split at h
  · rename_i x xs q1 q2
    cases h
    show fCons (A a d e) (L a d e) _ = _
    rw [ev_cons, h1 a d e ρ _ hi hd q1, ev_ok, ev_consK1, h2 a d e ρ _ hi hd q2]
    rfl
  · cases h
def gvL (G : List T → Option T) (gl : Ex → Option (List T)) : Ex → Option T := fun e => (gl e).bind G
theorem suv_callL (G : List T → Option T) (h2 : SuL i ns L gl) : SuV i ns (fun a d e => fCallL G (L a d e)) (gvL G gl) := fun a d e ρ t hi hd h => by
  unfold gvL at h
  cases q : gl e with
  | none => rw [q] at h; cases h
  | some xs =>
    rw [q, Option.bind_some] at h
    show fCallL G (L a d e) _ = _
    rw [ev_callL, h2 a d e ρ _ hi hd q, ev_ok, ev_callLK, h]
    rfl
def gvF1 (G : T → Option T) (g : Ex → Option T) : Ex → Option T := fun e => (g e).bind G
theorem suv_f1 (G : T → Option T) (h2 : SuV i ns A ga) : SuV i ns (fun a d e => f1 G (A a d e)) (gvF1 G ga) := fun a d e ρ t hi hd h => by
  unfold gvF1 at h
  cases q : ga e with
  | none => rw [q] at h; cases h
  | some xs =>
    rw [q, Option.bind_some] at h
    show f1 G (A a d e) _ = _
    rw [ev_f1, h2 a d e ρ _ hi hd q, ev_ok, ev_f1K, h]
    rfl
theorem suite_hg {em : EM} {ef : Nat → List Str} (h : ∀ k, em k = some true → SuV i (ef k) F g) (a : Addr) (d : Option Addr) (e : Ex) (ρ : Env) (t : T) (he : em e.c = some true) (hi : i < ρ.length) (hg : g e = some t) (hd : e.fs ≠ [] → ∃ dd, d = some dd) (_ : (ef e.c).length = e.fs.length ∨ e.fs = []) :
    ∃ ρ2, sRet (F a d e) (ρ.set i (some (exT a d (ef e.c) e))) = .ret t ρ2 ∧ ρ2.set i none = ρ.set i none := by
  refine ⟨ρ.set i (some (exT a d (ef e.c) e)), ?_, by rw [List.set_set]⟩
  rw [ev_sret, h e.c he a d e ρ t hi hd hg]
  rfl
end
/-! ### texts compared -/
def gNeS : T → T → Option Bool
  | .str a, .str b => some (!decide (a = b))
  | _, _ => none
def gEqS : T → T → Option Bool
  | .str a, .str b => some (decide (a = b))
  | _, _ => none
theorem er_strA {x : A} {s : Str} (h : er x = .str s) : x = .str s := by
  cases x <;> simp [er] at h
  rw [h]
theorem str_dec (a b : Str) : decide (V.str a = V.str b) = decide (a = b) := decide_eq_decide.mpr ⟨fun h => by cases h; rfl, fun h => by rw [h]⟩
theorem sim_neS {B : Tab} : SimP B rNe gNeS := fun H x y b Q ox oy e q => by
  unfold gNeS at e
  split at e
  · rename_i s t e1 e2
    cases e
    rw [er_strA e1, er_strA e2]
    refine ⟨rfl, ?_⟩
    show Q (.bl (!decide (V.str s = V.str t))) H
    rw [str_dec]
    exact q
  · cases e
theorem sim_eqS {B : Tab} : SimP B rEq gEqS := fun H x y b Q ox oy e q => by
  unfold gEqS at e
  split at e
  · rename_i s t e1 e2
    cases e
    rw [er_strA e1, er_strA e2]
    refine ⟨rfl, ?_⟩
    show Q (.bl (decide (V.str s = V.str t))) H
    rw [str_dec]
    exact q
  · cases e
end Tr
end

section
set_option Elab.async false
set_option linter.all false
set_option autoImplicit false
set_option maxRecDepth 100000
set_option maxHeartbeats 4000000
/-! Exceptions as values: isinstance of one with or without a dict. -/
namespace Tr
open PySem PySem.Spec PySem.Calls PyProof.Rows PySem.W
section
variable {prog : Program} {w : World} {A : Around} {E : Value → Shared → Prop} {s : Shared} {K : Frag} {x D : Addr} {ox : Obj} {od : Option Obj}
theorem found_data {C : Addr} {nm : Str} {f g : Value} (c1 : (clsIn K C).isSome = true) (c2 : findIn K (.ref C) nm = some (some f)) (c3 : specialIn K f "__get__" = some (some g)) (c4 : takesIn K f = some true) : findObj K C od nm = some (.bind g f) := by
  obtain ⟨cd, hc⟩ := Option.isSome_iff_exists.mp c1
  unfold findObj
  simp [hc, c2, c3, c4]
/-- x.__class__ of an exception, whatever its dict is -/
theorem exc_class {Q : Option Value → Shared → Prop} (T : L2.ExcC K D) (X : K.In s.heap) (I : InstAt s.heap x ox D od) (h : Q (some (.ref D)) { s with toks := s.toks + 1 }) : wpAny (model prog w) A (getAttr? (.ref x) "__class__") Q E s := by
  obtain ⟨hp, g, d, t, os⟩ := s
  have fd : findObj K D od "__class__" = some (.bind (.builtin "getset_descriptor.__get__") (.builtin "object.__class__")) := found_data (by obtain ⟨cd, hc, _⟩ := any_some T.hd; rw [hc]; rfl) T.ha T.hn T.ht
  have tyx := I.type (M := model prog w)
  have isx : Looks (model prog w) hp (isInstance (.ref x) (.type "BaseException")) true := tyx.andThen (looks_subIn X T.hs)
  have ne1 : (Value.builtin "BaseException.__getattribute__" == Value.builtin "object.__getattribute__") = false := by decide +kernel
  have ne2 : (onTheHeap (Value.ref D) && Value.builtin "BaseException.__getattribute__" == Value.builtin "object.__getattribute__") = false := by rw [ne1] <;> rfl
  have off : (false && onTheHeap (Value.builtin "BaseException.__getattribute__")) = false := rfl
  unfold getAttr?; unfold getAttrBy?; unfold getAttrBy
  refine wpAny_bind (wpAny_mkText (wpAny_bind (wpAny_attempt (wpAny_holding (wpAny_bind (tyx.at (wpAny_bind ((looks_findIn (M := model prog w) X T.hg).at ?_))))))))
  show wpAny _ _ (if (onTheHeap (Value.ref D) && _) = true then getAttrEveryday _ _ _ else _) _ _ _
  rw [if_neg (by show ¬ (onTheHeap (Value.ref D) && Value.builtin "BaseException.__getattribute__" == Value.builtin "object.__getattribute__") = true; rw [ne2]; exact Bool.false_ne_true)]
  unfold getAttrByItsOwn; unfold hookBefore; refine wpAny_bind ?_
  show wpAny _ _ (typeLookup (.ref D) _) _ _ _
  refine (looks_findIn (M := model prog w) X T.hk).at (wpAny_bind (wpAny_attempt (wpAny_holding ?_)))
  unfold callGetattribute; rw [off]; rw [if_neg Bool.false_ne_true]; unfold boundAndCalled
  rw [PySem.F.excAttr_ValueError.ga.bind (.ref x)]
  refine wpAny_bind (wpAny_pure ?_)
  show wpAny _ _ (call (.builtin "BaseException.__getattribute__") [.ref x, .str "__class__" t]) _ _ _
  refine wpAny_call (codeAny_call_builtin PySem.F.excAttr_ValueError.ga.plain PySem.F.entry_bexc_ga (@check_slot (model prog w) _ _ ⟨hp, g, d, t + 1, os⟩ "BaseException.__getattribute__" "BaseException" "__getattribute__" (.ref x) [.str "__class__" t] [] _ (by decide +kernel) (by decide +kernel) isx (PySem.F.args_bexc_ga (.ref x) (.str "__class__" t)) ?_))
  unfold Builtin.«object.__getattribute__»
  refine wpAny_bind (wpAny_of_eq (a := ((Value.ref x : Value), [Value.str "__class__" t])) (by first | rfl | (simp only [slotArgs] <;> rfl)) (wpAny_bind (wpAny_pure (wpAny_bind (tyx.at (wpAny_bind ((looks_find (M := model prog w) X I fd).at ?_)))))))
  show wpAny _ _ (holding [Value.builtin "object.__class__"] (call (.builtin "getset_descriptor.__get__") [.builtin "object.__class__", .ref x, .ref D]) >>= ret) _ _ _
  refine wpAny_bind (wpAny_holding (wpAny_call (class_get (s := ⟨hp, g, d, t + 1, os⟩) (ox := ox) (od := od) X I T.hm (wpAny_pure ?_))))
  show wpAny _ _ (handedOut (.ref D)) _ _ _
  rw [handedOut_of (v := .ref D) rfl]
  first
    | exact wpAny_pure (wpAny_bind (wpAny_pure (wpAny_pure h)))
    | exact wpAny_pure (wpAny_pure h)
    | exact wpAny_pure h
theorem exc_kit (T : L2.ExcC K D) : KitX K (.ref x) (.ref D) (fun h => InstAt h x ox D od) := by
  have there : ∃ o : Obj, K.lookup D = some o ∧ ∃ c, o.data = .cls c := by
    obtain ⟨cd, hc, _⟩ := any_some T.hd
    unfold clsIn at hc
    split at hc
    · rename_i a b c d e
      exact ⟨_, e, _, rfl⟩
    · cases hc
  obtain ⟨o, lk, c, dc⟩ := there
  exact {
    ty := fun _ _ _ I => I.type
    it := fun _ _ X _ A' Q' E' s' k q => by
      unfold isType loadHead
      exact wpAny_bind (wpAny_loadPart (k _ _ (X _ _ lk)) (wpAny_pure (by rw [dc]; exact q)))
    ne := fun h tp dd its n sl X htp => by
      rw [Bool.eq_false_iff]
      intro q
      obtain rfl : D = tp := Value.ref.inj (beq_iff_eq.mp q)
      have z := (X _ _ lk).symm.trans htp
      cases z
      cases dc
    ca := fun X I k => exc_class T X I k }
end

open L2 NdefX
/-! ### such a value in the tree -/
section
variable {B : Tab} {H H' : Hp} {R : List A} {xs : List A} {cn : Nat} {ns : List Str} {a dx : Addr}
theorem W.mkErr (h : Tr.W B H R) (na : H a = none) (nd : H dx = none) (k : ∀ b o, H b = some o → H' b = some o) (hn : NodeOk B H' (.err cn ns) false a dx (xs.map val)) (hx : OkL B H' xs) (ho : ownL xs = []) (hf : frzL xs = []) : Tr.W B H' (.nd (.err cn ns) false a dx xs :: R) := by
  have h2 : Tr.W B H' R := h.stay fun b _ o e => k b o e
  obtain ⟨f1, _⟩ := h.fresh na
  obtain ⟨g1, _⟩ := h.fresh nd
  have eo : ownL (.nd (.err cn ns) false a dx xs :: R) = ownL R := by rw [ownL, own, ho]; rfl
  refine ⟨⟨⟨hn, hx, fun _ => ho⟩, h2.ok⟩, by rw [eo]; exact h2.nd, fun b hb hb' => ?_⟩
  rw [eo] at hb
  rw [frzL, frz, hf] at hb'
  simp [frzN, NK.m] at hb'
  rcases hb' with rfl | rfl | q
  · exact f1 hb
  · exact g1 hb
  · exact h.ap b hb q
/-- where such a value stands -/
def ErrAt (H : Hp) (a D : Addr) : Prop := H a = some (exo a D none) ∨ ∃ dx fs, H a = some (exo a D (some dx)) ∧ H dx = some (exd dx fs)
theorem errAt_of {vs : List V} (h : NodeOk B H (.err cn ns) false a dx vs) : ErrAt H a (B.ct cn) := by
  obtain ⟨_, _, h⟩ := h
  rcases h with ⟨_, _, h⟩ | ⟨h1, h2⟩
  · exact .inl h
  · exact .inr ⟨_, _, h1, h2⟩
end
section
variable {X : Cx} {pins : List (Addr × Obj)} {σ : L2.St} {H : Hp} {s : Shared} {a D : Addr}
theorem errAt_inst (I : Inv X pins σ H s) (h : ErrAt H a D) : ∃ ox od, InstAt s.heap a ox D od := by
  rcases h with h | ⟨dx, fs, h1, h2⟩
  · obtain ⟨t1, ho⟩ := exo_at I.hok h
    exact ⟨_, none, ho, rfl, rfl, trivial⟩
  · obtain ⟨t1, ho⟩ := exo_at I.hok h1
    obtain ⟨mA, hns, _⟩ := exd_at I.hok h2
    obtain ⟨od, ho2, _⟩ := lookIn_ns hns
    exact ⟨_, some od, ho, rfl, rfl, ho2⟩
/-- isinstance(x, c), x such a value -/
def rIsX (K : Frag) : List V → Hp → VK → Prop := fun xs H Q => ∃ (a D : Addr) (c : V) (cv : Value) (b : Bool), xs = [.ref a, c] ∧ ErrAt H a D ∧ L2.ExcC K D ∧ (∀ u, RelV c u → u = cv) ∧ kitOne K (.ref D) cv = some b ∧ Q (.bl b) H
theorem call_isX : CallR X (.builtin "isinstance") (rIsX X.K) := by
  intro pins s σ H xs us Q I r h
  obtain ⟨a, D, c, cv, b, rfl, ha, C, hcv, e, q⟩ := h
  match us, r with
  | [u1, u2], .cons r1 (.cons r2 .nil) =>
    obtain rfl : u1 = Value.ref a := r1
    obtain rfl := hcv _ r2
    obtain ⟨ox, od, J⟩ := errAt_inst I ha
    exact kia_one (exc_kit C) I.kIn J e (fun z => nomatch z) fun tk => ⟨.bl b, H, I.kept (t' := tk) fun _ _ z => z, rfl, q⟩
/-- x.f of such a value -/
def tXv (K : Frag) (f : Str) (te : TE) : TE := fun σ H Q => te σ H fun x H1 => ∃ (a D dd : Addr) (fs : List (Str × V)) (v : V), x = .ref a ∧ XfC K D ∧ findIn K (.ref D) f = some none ∧ H1 a = some (exo a D (some dd)) ∧ H1 dd = some (exd dd fs) ∧ fs.lookup f = some v ∧ Q v H1
theorem pe_xv {e : Expr} {te : TE} {pos : Pos} {n : Str} (he : PE X e te) (hb : attributeBase e n X.env (eval e X.env) = eval e X.env := by rfl) : PE X (.Attribute e n pos) (tXv X.K n te) := by
  refine ⟨fun pins s σ H Q I h => attr_of hb (thn (he.run pins s σ H _ I h) fun u s1 hh => ?_)⟩
  obtain ⟨x, H1, I1, rx, a, D, dd, fs, v, rfl, T, hno, h1, h2, l, q⟩ := hh
  obtain rfl : u = Value.ref a := rx
  obtain ⟨t1, ho⟩ := exo_at I1.hok h1
  obtain ⟨mA, hns, hr⟩ := exd_at I1.hok h2
  obtain ⟨od, ho2, hl⟩ := lookIn_ns hns
  obtain ⟨w, hw, rw⟩ := RelO.some_of (v := v) (o := mA n) (by rw [← l]; exact hr n)
  have J : InstAt s1.heap a _ D (some od) := ⟨ho, rfl, rfl, ho2⟩
  exact HandSPX.exc_get I1.kIn J T.ga T.gg T.exC (findObj_own T.hdC hno rfl (by rw [hl, hw])) (handed_of rw) ⟨v, H1, I1.tok _, rw, q⟩
/-! ### such a value made -/
variable {CX : CXT} {x : Str} {C fI : Addr} {k : Nat} {fd : FuncData} {ps : List Str} {p pos : Pos} {e : Expr} {te : TE}
theorem pe_err0 (T : OexC X.K C) (iC : findIn X.K (.ref C) "__init__" = some (some (.ref fI))) (tI : typeIn X.K (.ref fI) = some (.type "function"))
    (F : FnOk X.prog X.w X.K X.mg X.base CX k fI fd ps (spI0 C)) (hr : Room (k + 1) X.A) (hb : Binds X.K fd ps []) (hx : Passes CX X (fun _ _ _ => False)) (hg : Gl X x) (hm : X.mg x = some (.ref C))
    (hdb : (x == ("__debug__" : Str)) = false := by decide) : PE X (.Call (.Name x p) [] [] pos) (fun σ H Q => ∀ a, H a = none → Q (.ref a) (upd H a (exo a C none))) := by
  refine ⟨fun pins s σ H Q I h => wpAny_Call_Name_kw (ld_glob I hg hm (callWith_K0 I.kIn T.kC ?_) hdb)⟩
  obtain ⟨nm, q, N, bs, bm, sn, sub, ab, col, dd, k0, k1, k2, k3, k5, hC, hbm⟩ := T.cls
  obtain ⟨hp, g, dr, tk, os⟩ := s
  show wpAny _ _ (call (.ref C) []) _ _ _
  have n1 : H (hp.objs.size + 1) = none := I.hok.fresh (Nat.le_succ _)
  have at1 : ((hp.push (kdv_tup [])).push (HandSPX.excO C hp.objs.size)).get? (hp.objs.size + 1) = some (HandSPX.excO C hp.objs.size) := by heap_get
  have J : Inv X pins σ (upd H (hp.objs.size + 1) (exo (hp.objs.size + 1) C none)) ⟨(hp.push (kdv_tup [])).push (HandSPX.excO C hp.objs.size), g, dr, tk, os⟩ :=
    I.laid (t' := tk) (fun b o y => Heap.get?_push_of_some _ (Heap.get?_push_of_some _ y)) (Nat.le_succ _) (exo_ok at1)
  have want : spI0 C [.ref (hp.objs.size + 1)] (upd H (hp.objs.size + 1) (exo (hp.objs.size + 1) C none)) (fun v H2 => v = .non ∧ Q (.ref (hp.objs.size + 1)) H2) (fun _ _ _ => False) := ⟨_, rfl, upd_same, rfl, h _ n1⟩
  have vs : Vals [V.ref (hp.objs.size + 1)] [Value.ref (hp.objs.size + 1)] := .cons rfl .nil
  have len : ([Value.ref (hp.objs.size + 1)] ++ []).length = ps.length := by rw [← F.len _ _ _ _ want]; rfl
  have run := F.run _ X.stack _ _ ⟨[Value.ref (hp.objs.size + 1)], []⟩ [Value.ref (hp.objs.size + 1)] _ _ _ (hr.make C [] []) (J.env0.make C [] []) (hb _ _ J.kIn len) vs want
  refine wpAny_call (HandSPX.call_own PySem.F.excBase_ValueError (fun Y => HandSPX.refsVE_contains Y bm hbm) (I.kIn _ _ hC) (looks_findIn I.kIn iC) (fun self => bind_fn I.kIn self tI) (Nat.zero_le _) (codeAny_mono run fun r s' z => ?_))
  match r, z with
  | .error er, z => exact hx pins σ _ _ er s' J z
  | .ok (.ret u), z =>
    obtain ⟨v, H', J2, rv, ev, q2⟩ := J.after z
    subst ev
    exact ⟨rv, .ref _, H', J2, rfl, q2⟩
  | .ok .next, z => exact z.elim
  | .ok .brk, z => exact z.elim
  | .ok .cont, z => exact z.elim
theorem pe_err1 {f : Str} {okv : V → Prop} (T : OexC X.K C) (iC : findIn X.K (.ref C) "__init__" = some (some (.ref fI))) (tI : typeIn X.K (.ref fI) = some (.type "function"))
    (F : FnOk X.prog X.w X.K X.mg X.base CX k fI fd ps (spI1 C f okv)) (hr : Room (k + 1) X.A) (hb : Binds X.K fd ps []) (hx : Passes CX X (fun _ _ _ => False)) (hg : Gl X x) (hm : X.mg x = some (.ref C)) (he : PE X e te)
    (hdb : (x == ("__debug__" : Str)) = false := by decide) (hs : starEach [e] X.env = (false, eval e X.env) :: starEach [] X.env := by rfl) :
    PE X (.Call (.Name x p) [e] [] pos) (fun σ H Q => te σ H fun v H1 => okv v ∧ ∀ a d, H1 a = none → H1 d = none → d ≠ a → Q (.ref a) (upd (upd (upd H1 a (exo a C none)) d (exd d [(f, v)])) a (exo a C (some d)))) := by
  refine ⟨fun pins s σ H Q I h => wpAny_Call_Name_kw (ld_glob I hg hm (callWith_K (h₀ := X.base) I.ok.mod.kin T.kC (thn ((pa_cons he pa_nil hs).run pos pins s σ H (fun vs H1 => match vs with | [v] => okv v ∧ ∀ a d, H1 a = none → H1 d = none → d ≠ a → Q (.ref a) (upd (upd (upd H1 a (exo a C none)) d (exd d [(f, v)])) a (exo a C (some d))) | _ => False) I h) fun us s1 hh => ?_) hs rfl) hdb)⟩
  obtain ⟨vs, H1, I1, r1, q1⟩ := hh
  refine ⟨I1.kIn, ?_⟩
  match vs, us, r1, q1 with
  | [v], [u1], .cons rv1 .nil, ⟨ov, q1⟩ =>
  obtain ⟨nm, q, N, bs, bm, sn, sub, ab, col, dd, k0, k1, k2, k3, k5, hC, hbm⟩ := T.cls
  obtain ⟨hp, g, dr, tk, os⟩ := s1
  show wpAny _ _ (call (.ref C) [u1]) _ _ _
  have n1 : H1 (hp.objs.size + 1) = none := I1.hok.fresh (Nat.le_succ _)
  have at1 : ((hp.push (kdv_tup [u1])).push (HandSPX.excO C hp.objs.size)).get? (hp.objs.size + 1) = some (HandSPX.excO C hp.objs.size) := by heap_get
  have J : Inv X pins σ (upd H1 (hp.objs.size + 1) (exo (hp.objs.size + 1) C none)) ⟨(hp.push (kdv_tup [u1])).push (HandSPX.excO C hp.objs.size), g, dr, tk, os⟩ :=
    I1.laid (t' := tk) (fun b o y => Heap.get?_push_of_some _ (Heap.get?_push_of_some _ y)) (Nat.le_succ _) (exo_ok at1)
  have want : spI1 C f okv [.ref (hp.objs.size + 1), v] (upd H1 (hp.objs.size + 1) (exo (hp.objs.size + 1) C none)) (fun v2 H2 => v2 = .non ∧ Q (.ref (hp.objs.size + 1)) H2) (fun _ _ _ => False) :=
    ⟨_, _, rfl, upd_same, ov, fun d nd ne => ⟨rfl, q1 _ d n1 (by rw [upd_ne ne] at nd; exact nd) ne⟩⟩
  have vs : Vals [V.ref (hp.objs.size + 1), v] [Value.ref (hp.objs.size + 1), u1] := .cons rfl (.cons rv1 .nil)
  have len : ([Value.ref (hp.objs.size + 1), u1] ++ []).length = ps.length := by rw [← F.len _ _ _ _ want]; rfl
  have run := F.run _ X.stack _ _ ⟨[Value.ref (hp.objs.size + 1), u1], []⟩ [Value.ref (hp.objs.size + 1), u1] _ _ _ (hr.make C [u1] []) (J.env0.make C [u1] []) (hb _ _ J.kIn len) vs want
  refine wpAny_call (HandSPX.call_own PySem.F.excBase_ValueError (fun Y => HandSPX.refsVE_contains Y bm hbm) (I1.kIn _ _ hC) (looks_findIn I1.kIn iC) (fun self => bind_fn I1.kIn self tI) (by show 1 ≤ sizeLine; rw [sizeLine_eq]; omega) (codeAny_mono run fun r s' z => ?_))
  match r, z with
  | .error er, z => exact hx pins σ _ _ er s' J z
  | .ok (.ret u), z =>
    obtain ⟨v, H', J2, rv, ev, q2⟩ := J.after z
    subst ev
    exact ⟨rv, .ref _, H', J2, rfl, q2⟩
  | .ok .next, z => exact z.elim
  | .ok .brk, z => exact z.elim
  | .ok .cont, z => exact z.elim
end
section
variable {X : Cx} {c : Cu} {CX : CXT} {x y : Str} {cn : Nat} {fI : Addr} {k : Nat} {fd : FuncData} {ps : List Str} {p p2 pos : Pos} {e : Expr} {fe : M T}
theorem se_err0 (T : OexC X.K (c.ct cn)) (iC : findIn X.K (.ref (c.ct cn)) "__init__" = some (some (.ref fI))) (tI : typeIn X.K (.ref fI) = some (.type "function"))
    (F : FnOk X.prog X.w X.K X.mg X.base CX k fI fd ps (spI0 (c.ct cn))) (hr : Room (k + 1) X.A) (hb : Binds X.K fd ps []) (hx : Passes CX X (fun _ _ _ => False)) (hm : X.mg x = some (.ref (c.ct cn))) (hg : Gl X x := by rfl)
    (hdb : (x == ("__debug__" : Str)) = false := by decide) : SE X c (.Call (.Name x p) [] [] pos) (M.ret (.nd (.err cn []) [])) :=
  pe_imp (pe_err0 T iC tI F hr hb hx hg hm hdb) fun σ H Q h => by
    obtain ⟨ρ, R, I, P⟩ := h
    intro a na
    exact P (.nd (.err cn []) false a a []) _ rfl (I.imp fun S w => W.mkErr (xs := []) w na na (fun b o e => by rw [upd_ne (ne_of_none e na)]; exact e) ⟨rfl, rfl, .inl ⟨rfl, rfl, upd_same⟩⟩ trivial rfl rfl)
def gErr1 (cn : Nat) (f : Str) (ok : T → Bool) (t : T) : Option T := if (atomV t).isSome && ok t then some (.nd (.err cn [f]) [t]) else none
theorem atomA {r : A} {v : V} (h : atomV (er r) = some v) : own r = [] ∧ frz r = [] ∧ val r = v ∧ ∀ B H, Ok B H r := by
  cases r with
  | nd k w a dx xs => cases h
  | hole u => cases h
  | cst u => cases h
  | non => exact ⟨rfl, rfl, Option.some.inj h, fun _ _ => trivial⟩
  | bl b => exact ⟨rfl, rfl, Option.some.inj h, fun _ _ => trivial⟩
  | int b => exact ⟨rfl, rfl, Option.some.inj h, fun _ _ => trivial⟩
  | str b => exact ⟨rfl, rfl, Option.some.inj h, fun _ _ => trivial⟩
theorem se_err1 {f : Str} {okv : V → Prop} {ok : T → Bool} (hok : ∀ t v, ok t = true → atomV t = some v → okv v) (T : OexC X.K (c.ct cn)) (iC : findIn X.K (.ref (c.ct cn)) "__init__" = some (some (.ref fI))) (tI : typeIn X.K (.ref fI) = some (.type "function"))
    (F : FnOk X.prog X.w X.K X.mg X.base CX k fI fd ps (spI1 (c.ct cn) f okv)) (hr : Room (k + 1) X.A) (hb : Binds X.K fd ps []) (hx : Passes CX X (fun _ _ _ => False)) (hm : X.mg x = some (.ref (c.ct cn))) (he : SE X c e fe) (hg : Gl X x := by rfl)
    (hdb : (x == ("__debug__" : Str)) = false := by decide) (hs : starEach [e] X.env = (false, eval e X.env) :: starEach [] X.env := by rfl) : SE X c (.Call (.Name x p) [e] [] pos) (f1 (gErr1 cn f ok) fe) :=
  pe_imp (pe_err1 T iC tI F hr hb hx hg hm he hdb hs) fun σ H Q h => by
    obtain ⟨ρ, R, I, P⟩ := h
    refine se_then I P fun r H1 ρ1 I1 P1 => ?_
    obtain ⟨t, e1, q⟩ := P1.lift
    unfold gErr1 at e1
    split at e1
    · rename_i hc
      cases e1
      simp only [Bool.and_eq_true] at hc
      obtain ⟨v, hv⟩ := Option.isSome_iff_exists.mp hc.1
      obtain ⟨o1, o2, o3, o4⟩ := atomA hv
      refine ⟨by rw [o3]; exact hok _ _ hc.2 hv, fun a d na nd ne => ?_⟩
      refine q (.nd (.err cn [f]) false a d [r]) _ rfl (I1.drop.imp fun S w => W.mkErr (xs := [r]) w na nd (fun b o e => ?_) ⟨rfl, rfl, .inr ⟨upd_same, ?_⟩⟩ ⟨o4 _ _, trivial⟩ (by rw [ownL, o1]; rfl) (by rw [frzL, o2]; rfl))
      · rw [upd_ne (ne_of_none e na), upd_ne (ne_of_none e nd), upd_ne (ne_of_none e na)]; exact e
      · rw [upd_ne ne, upd_same]; rfl
    · cases e1
/-- x.f -/
def gXfld (oc : Nat → Bool) (f : Str) : T → Option T
  | .nd (.err c [g]) [t] => if oc c && decide (g = f) then some t else none
  | _ => none
theorem se_xv {f : Str} {oc : Nat → Bool} (hc : ∀ k, oc k = true → XfC X.K (c.ct k) ∧ findIn X.K (.ref (c.ct k)) f = some none) (ha : SE X c e fe) (hb : attributeBase e f X.env (eval e X.env) = eval e X.env := by rfl) : SE X c (.Attribute e f pos) (f1 (gXfld oc f) fe) :=
  pe_imp (pe_xv ha hb) fun σ H Q h => by
    obtain ⟨ρ, R, I, P⟩ := h
    refine se_then I P fun r H1 ρ1 I1 P1 => ?_
    obtain ⟨t, e1, q⟩ := P1.lift
    unfold gXfld at e1
    split at e1
    · rename_i m g t' eu
      obtain ⟨w1, a1, d1, zs, rfl, ez⟩ := er_nd eu
      split at e1
      · rename_i hcc
        cases e1
        simp only [Bool.and_eq_true, decide_eq_true_eq] at hcc
        obtain ⟨h1, rfl⟩ := hcc
        obtain ⟨z, rfl, ez3⟩ := er_one ez
        obtain ⟨ρA, eA, m', w⟩ := id I1
        have ok : Ok (tab X c) H1 _ := (okL_append.mp w.ok).2.1
        obtain ⟨_, _, hn⟩ := ok.1
        obtain ⟨t1, t2⟩ := hc _ h1
        rcases hn with ⟨z1, _⟩ | ⟨h2, h3⟩
        · cases z1
        · exact ⟨a1, _, d1, _, val z, rfl, t1, t2, h2, h3, by simp [List.lookup], q z H1 ez3 (I1.imp fun S w => W.child (j := 0) w rfl)⟩
      · cases e1
    · cases e1
/-- isinstance(x, C) -/
def gIsX (tb : Nat → Option Bool) : T → Option T
  | .nd (.err c _) _ => (tb c).map T.bl
  | _ => none
theorem isX_arg {v : V} {cv : Value} {tb : Nat → Option Bool} (ht : ∀ k b, tb k = some b → L2.ExcC X.K (c.ct k) ∧ kitOne X.K (.ref (c.ct k)) cv = some b) (hcv : ∀ u, RelV v u → u = cv) (hi : X.mg "isinstance" = none) (hy : PE X (.Name y p2) (tC v)) (he : SE X c e fe) (hg : Gl X "isinstance")
    (h1 : starEach [e, .Name y p2] X.env = (false, eval e X.env) :: starEach [.Name y p2] X.env) (h2 : starEach [.Name y p2] X.env = (false, eval (.Name y p2) X.env) :: starEach [] X.env) (hpl : (backTo pos (starEach [.Name y p2] X.env)).any (·.1) = false) :
    SE X c (.Call (.Name "isinstance" p) [e, .Name y p2] [] pos) (f1 (gIsX tb) fe) :=
  pe_imp (pe_callB call_isX hg hi (by first | rfl | boot_by_name | kernel_rfl) (pa_cons he (pa_cons hy pa_nil h2) h1) (by decide) (by decide) h1 hpl) fun σ H Q h => by
    obtain ⟨ρ, R, I, P⟩ := h
    refine se_then I P fun x H1 ρ1 I1 P1 => ?_
    obtain ⟨t, e1, q⟩ := P1.lift
    obtain ⟨ρA, eA, m, w⟩ := id I1
    unfold gIsX at e1
    split at e1
    · rename_i cn ns ts eu
      obtain ⟨w1, a1, d1, zs, rfl, rfl⟩ := er_nd eu
      cases eb : tb cn with
      | none => rw [eb] at e1; cases e1
      | some b =>
        rw [eb] at e1
        cases e1
        obtain ⟨C, hk⟩ := ht _ _ eb
        have ok : Ok (tab X c) H1 _ := (okL_append.mp w.ok).2.1
        have w2 := w.perm (List.perm_middle (l₁ := slots ρA)).symm
        have hw := ok.1.1
        subst hw
        exact ⟨a1, _, v, cv, b, rfl, errAt_of ok.1, C, hcv, hk, q (.bl b) H1 rfl ⟨ρA, eA, m, (w2.drop.bl (b := b)).perm (List.perm_middle (l₁ := slots ρA))⟩⟩
    · cases e1
theorem se_isX {ca : Addr} {tb : Nat → Option Bool} (ht : ∀ k b, tb k = some b → L2.ExcC X.K (c.ct k) ∧ kitOne X.K (.ref (c.ct k)) (.ref ca) = some b) (hi : X.mg "isinstance" = none) (hm : X.mg y = some (.ref ca)) (he : SE X c e fe)
    (hg : Gl X "isinstance" := by rfl) (hgy : Gl X y := by rfl) (hyd : (y == ("__debug__" : Str)) = false := by decide)
    (h1 : starEach [e, .Name y p2] X.env = (false, eval e X.env) :: starEach [.Name y p2] X.env := by rfl) (h2 : starEach [.Name y p2] X.env = (false, eval (.Name y p2) X.env) :: starEach [] X.env := by rfl) (hpl : (backTo pos (starEach [.Name y p2] X.env)).any (·.1) = false := by rfl) :
    SE X c (.Call (.Name "isinstance" p) [e, .Name y p2] [] pos) (f1 (gIsX tb) fe) := isX_arg (v := .ref ca) ht (fun u h => h) hi (pe_glob (v := .ref ca) hgy hm rfl hyd) he hg h1 h2 hpl
theorem se_isXB {Ty : String} {tb : Nat → Option Bool} (ht : ∀ k b, tb k = some b → L2.ExcC X.K (c.ct k) ∧ kitOne X.K (.ref (c.ct k)) (.type Ty) = some b) (hi : X.mg "isinstance" = none) (hm : X.mg y = none) (hbt : bootBuiltins y = some (.type Ty)) (he : SE X c e fe)
    (hg : Gl X "isinstance" := by rfl) (hgy : Gl X y := by rfl) (hyd : (y == ("__debug__" : Str)) = false := by decide) (hyn : y ≠ "__name__" := by decide)
    (h1 : starEach [e, .Name y p2] X.env = (false, eval e X.env) :: starEach [.Name y p2] X.env := by rfl) (h2 : starEach [.Name y p2] X.env = (false, eval (.Name y p2) X.env) :: starEach [] X.env := by rfl) (hpl : (backTo pos (starEach [.Name y p2] X.env)).any (·.1) = false := by rfl) :
    SE X c (.Call (.Name "isinstance" p) [e, .Name y p2] [] pos) (f1 (gIsX tb) fe) := isX_arg (v := .ty Ty) ht (fun u h => h) hi (pe_bltn (v := .ty Ty) hgy hm hbt rfl hyn hyd) he hg h1 h2 hpl
end
/-! ### repr of a number or a text -/
section
variable {X : Cx}
def rReprA : List V → Hp → VK → Prop := fun xs H Q => (∃ i : Int, xs = [.int i] ∧ i.natAbs.log2 < 1920 ∧ Q (.str (toString i)) H) ∨ ∃ z : Str, xs = [.str z] ∧ (reprText z).length ≤ sizeLine ∧ Q (.str (reprText z)) H
theorem call_reprA : CallR X (.builtin "repr") rReprA := by
  intro pins s σ H xs us Q I r h
  rcases h with h | ⟨z, rfl, hz, q⟩
  · exact SkE.call_repr_int pins s σ H xs us Q I r h
  · obtain ⟨u, rfl, t, rfl⟩ := vals1 r
    exact PySem.P.repr_of_str (hsz := hz) ⟨.str _, H, I.tok _, ⟨_, rfl⟩, q⟩
def gReprA : List T → Option T
  | [.int i] => if i.natAbs.log2 < 1920 then some (.str (toString i)) else none
  | [.str z] => if (reprText z).length ≤ sizeLine then some (.str (reprText z)) else none
  | _ => none
theorem sim_reprA {B : Tab} : SimL B rReprA gReprA := fun H xs R t Q w e hz => by
  unfold gReprA at e
  split at e
  · rename_i i eu
    obtain ⟨r, rfl, er1⟩ := er_one eu
    split at e
    · rename_i hc
      cases e
      refine .inl ⟨i, ?_, hc, hz (.str _) H rfl w.drop.str⟩
      rw [List.map_cons, List.map_nil, (atomA (r := r) (v := .int i) (by rw [er1]; rfl)).2.2.1]
    · cases e
  · rename_i z eu
    obtain ⟨r, rfl, er1⟩ := er_one eu
    split at e
    · rename_i hc
      cases e
      refine .inr ⟨z, ?_, hc, hz (.str _) H rfl w.drop.str⟩
      rw [List.map_cons, List.map_nil, (atomA (r := r) (v := .str z) (by rw [er1]; rfl)).2.2.1]
    · cases e
  · cases e
end
/-! ### three names at once -/
section
variable {X : Cx} {c : Cu} {fl : M (List T)} {pos : Pos} {a b d : Expr}
theorem ss_par3 (i j l : Nat) {x y z : Str} {px py pz pt : Pos} {kt k2 pt2} (hc : X.calm = true) (hN : X.N.Nodup) (ha : SL X c [a, b, d] fl) (hp : c.pr i = false) (hq : c.pr j = false) (hr : c.pr l = false)
    (hi : X.N[i]? = some x := by rfl) (hj : X.N[j]? = some y := by rfl) (hl : X.N[l]? = some z := by rfl) (hij : i ≠ j := by decide) (hil : i ≠ l := by decide) (hjl : j ≠ l := by decide)
    (hx : X.env.scope.names.lookup x = some .local := by rfl) (hy : X.env.scope.names.lookup y = some .local := by rfl) (hz : X.env.scope.names.lookup z = some .local := by rfl)
    (hw : swappedStores [.Tuple [.Name x px, .Name y py, .Name z pz] kt pt] (.Tuple [a, b, d] k2 pt2) X.env = pure (some [x, y, z]) := by rfl) (hs : swapsWithSole [.Tuple [.Name x px, .Name y py, .Name z pz] kt pt] (.Tuple [a, b, d] k2 pt2) pos.line X.env = pure false := by rfl) :
    SS X c (.Assign [.Tuple [.Name x px, .Name y py, .Name z pz] kt pt] (.Tuple [a, b, d] k2 pt2) pos) (sPar fl (gsCons (gSet i) (gsCons (gSet j) (gsCons (gSet l) gsNil)))) := ps_imp (ps_par3 hc hN hi hj hl hij hil hjl hx hy hz ha hw hs) fun D σ H h => by
  obtain ⟨ρ, R, I, P⟩ := h
  refine ssL_then I P fun rs H1 ρ1 I1 q => ?_
  match rs, q, I1 with
  | [r, s, t], q, I1 => exact ⟨val r, val s, val t, rfl, q _ H1 (((I1.setv i).setv j).setv l) (((Keep.set hp).trans (Keep.set hq)).trans (Keep.set hr))⟩
  | [], q, _ => exact q.elim
  | [_], q, _ => exact q.elim
  | [_, _], q, _ => exact q.elim
  | _ :: _ :: _ :: _ :: _, q, _ => exact q.elim
end
theorem excC_of {K : Frag} {C fI : Addr} (h : (exFacts K C fI).all id = true) : L2.ExcC K C := by
  simp only [exFacts, List.all_cons, List.all_nil, id, Bool.and_true, Bool.and_eq_true, decide_eq_true_eq] at h
  obtain ⟨_, _, h3, _, _, _, _, _, _, _, _, _, h13, h14, h15, h16, h17, h18, h19⟩ := h
  exact ⟨He.eqO_ok h13, He.eqO_ok h14, h3, h15, He.eqO_ok h16, He.eqO_ok h17, h18, h19⟩
/-! ### a, b = a list -/
section
variable {X : Cx} {c : Cu} {es : List Expr} {pos : Pos}
def gUnlT (n : Nat) (gs : FGs) : FG := fun t => match t with
  | .nd (.lst _) xs => if xs.length = n then gs xs else fun _ => .bad
  | _ => fun _ => .bad
theorem sg_unl {k : Nat} {gs : FGs} {n : Nat} (hc : X.calm = true) (h : SGs X c es gs) (hn : (assignEach es X.env).length = n := by rfl) (hst : (assignEach es X.env).findIdx? (·.1) = none := by rfl) : SG X c (.Tuple es k pos) (gUnlT n gs) :=
  pg_imp (pg_unl hc h hn hst) fun v σ H Q h => by
    obtain ⟨r, ρ, R, rfl, I, P⟩ := h
    cases r with
    | nd kk w a dx xs =>
      cases kk with
      | lst m =>
        rw [er] at P
        simp only [gUnlT] at P
        split at P
        · rename_i hl
          obtain ⟨ρA, e, m', w2⟩ := id I
          have ok : Ok (tab X c) H _ := (okL_append.mp w2.ok).2.1
          exact ⟨a, xs.map val, rfl, sqL ok, by rw [List.length_map, ← hl, len_erL], xs, ρ, R, rfl, I.imp fun S w => by rw [List.append_assoc]; exact W.open w, P⟩
        · exact P.elim
      | _ => exact P.elim
    | _ => exact P.elim
end
end Tr
end

section
set_option Elab.async false
set_option linter.all false
set_option autoImplicit false
set_option maxRecDepth 100000
set_option maxHeartbeats 4000000
namespace TrLaw
open Tr PySem PySem.Spec PyProof.Rows L2
def FU : Nat := 100000
def topS (i : Nat) : Stmt := PySem.Challenge.pw_digitsturn_k16_errors.main.body.getD i (.Pass ⟨0, 0, 0, 0⟩)
abbrev s_BadWorld___init__ : Stmt := inClass (topS 2) 0
def ok_BadWorld : T → Bool := fun t => match t with | .int i => decide (i.natAbs.log2 < 1920) | _ => false
theorem okv_BadWorld : ∀ t v, ok_BadWorld t = true → atomV t = some v → okInt v := by
  intro t v h e
  unfold ok_BadWorld at h
  split at h
  · cases e; exact ⟨_, rfl, of_decide_eq_true h⟩
  · cases h
abbrev s_BadPlan___init__ : Stmt := inClass (topS 9) 0
def ok_BadPlan : T → Bool := fun t => match t with | .int i => decide (i.natAbs.log2 < 1920) | _ => false
theorem okv_BadPlan : ∀ t v, ok_BadPlan t = true → atomV t = some v → okInt v := by
  intro t v h e
  unfold ok_BadPlan at h
  split at h
  · cases e; exact ⟨_, rfl, of_decide_eq_true h⟩
  · cases h
abbrev s_BadValues___init__ : Stmt := inClass (topS 6) 0
def ok_BadValues : T → Bool := fun t => match t with | .int i => decide (i.natAbs.log2 < 1920) | _ => false
theorem okv_BadValues : ∀ t v, ok_BadValues t = true → atomV t = some v → okInt v := by
  intro t v h e
  unfold ok_BadValues at h
  split at h
  · cases e; exact ⟨_, rfl, of_decide_eq_true h⟩
  · cases h
abbrev s_NoReading___init__ : Stmt := inClass (topS 4) 0
def ok_NoReading : T → Bool := fun _ => true
theorem okv_NoReading : ∀ t v, ok_NoReading t = true → atomV t = some v → True := fun _ _ _ _ => trivial
abbrev s_NoActor___init__ : Stmt := inClass (topS 7) 0
def ok_NoActor : T → Bool := fun _ => true
theorem okv_NoActor : ∀ t v, ok_NoActor t = true → atomV t = some v → True := fun _ _ _ _ => trivial
abbrev s_NoRegister___init__ : Stmt := inClass (topS 11) 0
def ok_NoRegister : T → Bool := fun _ => true
theorem okv_NoRegister : ∀ t v, ok_NoRegister t = true → atomV t = some v → True := fun _ _ _ _ => trivial
abbrev s_BadClaim___init__ : Stmt := inClass (topS 3) 0
abbrev s_NotTogether___init__ : Stmt := inClass (topS 5) 0
abbrev s_BadVersions___init__ : Stmt := inClass (topS 8) 0
abbrev s_BadChoice___init__ : Stmt := inClass (topS 10) 0
abbrev s_NothingToUndo___init__ : Stmt := inClass (topS 12) 0
abbrev s__law_begun_pen : Stmt := topS 14
abbrev s__law_draw : Stmt := topS 15
abbrev s__law_pick : Stmt := topS 16
abbrev s__law_shuffled : Stmt := topS 17
abbrev s__law_new_names : Stmt := topS 18
abbrev s__law_classes : Stmt := topS 19
abbrev s__law_is_one : Stmt := topS 20
abbrev s__law_fielded : Stmt := topS 21
abbrev s__law_plain_right : Stmt := topS 22
abbrev s_law : Stmt := topS 23
def tb_BadChoice : Nat → Option Bool := fun k => match k with | 1 => some false | 8 => some false | 5 => some false | 3 => some false | 6 => some false | 10 => some false | 2 => some false | 4 => some false | 7 => some false | 9 => some true | 11 => some false | _ => none
def tb_BadClaim : Nat → Option Bool := fun k => match k with | 1 => some false | 8 => some false | 5 => some false | 3 => some false | 6 => some false | 10 => some false | 2 => some true | 4 => some false | 7 => some false | 9 => some false | 11 => some false | _ => none
def tb_BadPlan : Nat → Option Bool := fun k => match k with | 1 => some false | 8 => some true | 5 => some false | 3 => some false | 6 => some false | 10 => some false | 2 => some false | 4 => some false | 7 => some false | 9 => some false | 11 => some false | _ => none
def tb_BadValues : Nat → Option Bool := fun k => match k with | 1 => some false | 8 => some false | 5 => some true | 3 => some false | 6 => some false | 10 => some false | 2 => some false | 4 => some false | 7 => some false | 9 => some false | 11 => some false | _ => none
def tb_BadVersions : Nat → Option Bool := fun k => match k with | 1 => some false | 8 => some false | 5 => some false | 3 => some false | 6 => some false | 10 => some false | 2 => some false | 4 => some false | 7 => some true | 9 => some false | 11 => some false | _ => none
def tb_BadWorld : Nat → Option Bool := fun k => match k with | 1 => some true | 8 => some false | 5 => some false | 3 => some false | 6 => some false | 10 => some false | 2 => some false | 4 => some false | 7 => some false | 9 => some false | 11 => some false | _ => none
def tb_NoActor : Nat → Option Bool := fun k => match k with | 1 => some false | 8 => some false | 5 => some false | 3 => some false | 6 => some true | 10 => some false | 2 => some false | 4 => some false | 7 => some false | 9 => some false | 11 => some false | _ => none
def tb_NoReading : Nat → Option Bool := fun k => match k with | 1 => some false | 8 => some false | 5 => some false | 3 => some true | 6 => some false | 10 => some false | 2 => some false | 4 => some false | 7 => some false | 9 => some false | 11 => some false | _ => none
def tb_NoRegister : Nat → Option Bool := fun k => match k with | 1 => some false | 8 => some false | 5 => some false | 3 => some false | 6 => some false | 10 => some true | 2 => some false | 4 => some false | 7 => some false | 9 => some false | 11 => some false | _ => none
def tb_NotTogether : Nat → Option Bool := fun k => match k with | 1 => some false | 8 => some false | 5 => some false | 3 => some false | 6 => some false | 10 => some false | 2 => some false | 4 => some true | 7 => some false | 9 => some false | 11 => some false | _ => none
def tb_NothingToUndo : Nat → Option Bool := fun k => match k with | 1 => some false | 8 => some false | 5 => some false | 3 => some false | 6 => some false | 10 => some false | 2 => some false | 4 => some false | 7 => some false | 9 => some false | 11 => some true | _ => none
def tb_TurnError : Nat → Option Bool := fun k => match k with | 1 => some true | 8 => some true | 5 => some true | 3 => some true | 6 => some true | 10 => some true | 2 => some true | 4 => some true | 7 => some true | 9 => some true | 11 => some true | _ => none
def tb_ValueError : Nat → Option Bool := fun k => match k with | 1 => some true | 8 => some true | 5 => some true | 3 => some true | 6 => some true | 10 => some true | 2 => some true | 4 => some true | 7 => some true | 9 => some true | 11 => some true | _ => none
def mkN : List Nat := [1, 8, 5, 3, 6, 10, 2, 4, 7, 9, 11]
theorem kx_of {K : PySem.W.Frag} {cT : Nat → Addr} {B : Value} {tb : Nat → Option Bool} (h : (mkN.all fun k => decide (PySem.W.kitOne K (.ref (cT k)) B = tb k)) = true) (hn : ∀ k b, tb k = some b → k ∈ mkN) : ∀ k b, tb k = some b → PySem.W.kitOne K (.ref (cT k)) B = some b := fun k b e => by
  rw [← e]
  exact of_decide_eq_true (List.all_eq_true.mp h k (hn k b e))
theorem tn_BadChoice : ∀ k b, tb_BadChoice k = some b → k ∈ mkN := by
  intro k b h
  unfold tb_BadChoice at h
  split at h <;> first | decide | cases h
theorem tn_BadClaim : ∀ k b, tb_BadClaim k = some b → k ∈ mkN := by
  intro k b h
  unfold tb_BadClaim at h
  split at h <;> first | decide | cases h
theorem tn_BadPlan : ∀ k b, tb_BadPlan k = some b → k ∈ mkN := by
  intro k b h
  unfold tb_BadPlan at h
  split at h <;> first | decide | cases h
theorem tn_BadValues : ∀ k b, tb_BadValues k = some b → k ∈ mkN := by
  intro k b h
  unfold tb_BadValues at h
  split at h <;> first | decide | cases h
theorem tn_BadVersions : ∀ k b, tb_BadVersions k = some b → k ∈ mkN := by
  intro k b h
  unfold tb_BadVersions at h
  split at h <;> first | decide | cases h
theorem tn_BadWorld : ∀ k b, tb_BadWorld k = some b → k ∈ mkN := by
  intro k b h
  unfold tb_BadWorld at h
  split at h <;> first | decide | cases h
theorem tn_NoActor : ∀ k b, tb_NoActor k = some b → k ∈ mkN := by
  intro k b h
  unfold tb_NoActor at h
  split at h <;> first | decide | cases h
theorem tn_NoReading : ∀ k b, tb_NoReading k = some b → k ∈ mkN := by
  intro k b h
  unfold tb_NoReading at h
  split at h <;> first | decide | cases h
theorem tn_NoRegister : ∀ k b, tb_NoRegister k = some b → k ∈ mkN := by
  intro k b h
  unfold tb_NoRegister at h
  split at h <;> first | decide | cases h
theorem tn_NotTogether : ∀ k b, tb_NotTogether k = some b → k ∈ mkN := by
  intro k b h
  unfold tb_NotTogether at h
  split at h <;> first | decide | cases h
theorem tn_NothingToUndo : ∀ k b, tb_NothingToUndo k = some b → k ∈ mkN := by
  intro k b h
  unfold tb_NothingToUndo at h
  split at h <;> first | decide | cases h
theorem tn_TurnError : ∀ k b, tb_TurnError k = some b → k ∈ mkN := by
  intro k b h
  unfold tb_TurnError at h
  split at h <;> first | decide | cases h
theorem tn_ValueError : ∀ k b, tb_ValueError k = some b → k ∈ mkN := by
  intro k b h
  unfold tb_ValueError at h
  split at h <;> first | decide | cases h
def oc_index : Nat → Bool := fun k => match k with | 5 => true | _ => false
def oc_line : Nat → Bool := fun k => match k with | 1 => true | 8 => true | _ => false
def oc_name : Nat → Bool := fun k => match k with | 3 => true | 6 => true | 10 => true | _ => false
def b__law_begun_pen : FS :=
 (sRet (fDisp (fPCons (M.ret (.str "cells")) (fCallL gList (fCons (fSl (fRd (fPl 0)) (M.ret none) (pInt (M.ret (.int 63)))) fNil)) (fPCons (M.ret (.str "turn")) (M.ret (.int 0)) (fPCons (M.ret (.str "left")) (M.ret (.int 0)) fPNil)))))
def f__law_begun_pen : CF := runF [true] 1 b__law_begun_pen
def b__law_draw : FS :=
 (sSeq (sIf (cC gGt (fRd (fIx (xC (.str "left")) (fPl 0))) (M.ret (.int 0)))
 (sSeq (sAsg (f2 gMod (fCallL gInt (fCons (fRd (fIx (xC (.str "left")) (fPl 0))) fNil)) (fRd (fPl 1))) (gSet 2))
 (sSeq (sAsg (f2 gDiv (fRd (fIx (xC (.str "left")) (fPl 0))) (fRd (fPl 1))) (gIx (xC (.str "left")) (fPl 0)))
 (sRet (fMv 2))))
 sNext)
 (sSeq (sAsg (fRd (fIx (xC (.str "turn")) (fPl 0))) (gSet 3))
 (sSeq (sAsg (f2 gAdd (fRd (fPl 3)) (M.ret (.int 1))) (gIx (xC (.str "turn")) (fPl 0)))
 (sSeq (sAsg (f2 gAdd (f2 gMul (M.ret (.int 61)) (fRd (fPl 3))) (M.ret (.int 13))) (gSet 4))
 (sSeq (sIf (cEmp true (fIx (xC (.str "cells")) (fPl 0)))
 (sAsg (f2 gIxT (fRd (fIx (xC (.str "cells")) (fPl 0))) (f2 gMod (fCallL gInt (fCons (fRd (fPl 3)) fNil)) (fLenB (fIx (xC (.str "cells")) (fPl 0))))) (gSet 4))
 sNext)
 (sSeq (sIf (bAnd (cC gLt (fRd (fPl 3)) (fLenB (fIx (xC (.str "cells")) (fPl 0)))) (cC gGe (fCallL gAbs (fCons (fRd (fPl 4)) fNil)) (f2 gPow (M.ret (.int 10)) (M.ret (.int 18)))))
 (sSeq (sAsg (f2 gDiv (f2 gSub (fCallL gAbs (fCons (fRd (fPl 4)) fNil)) (f2 gPow (M.ret (.int 10)) (M.ret (.int 18)))) (fRd (fPl 1))) (gIx (xC (.str "left")) (fPl 0)))
 (sRet (f2 gMod (fCallL gInt (fCons (f2 gSub (fCallL gAbs (fCons (fRd (fPl 4)) fNil)) (f2 gPow (M.ret (.int 10)) (M.ret (.int 18)))) fNil)) (fRd (fPl 1)))))
 sNext)
 (sSeq (sAsg (f2 gMul (f2 gMod (fCallL gInt (fCons (fRd (fPl 4)) fNil)) (M.ret (.int 4294967087))) (M.ret (.int 48611))) (gSet 5))
 (sSeq (sAsg (f2 gMod (fCallL gInt (fCons (f2 gAdd (f2 gAdd (fRd (fPl 5)) (f2 gMul (fRd (fPl 3)) (f2 gAdd (f2 gMul (fRd (fPl 3)) (M.ret (.int 27919))) (M.ret (.int 10601))))) (M.ret (.int 41))) fNil)) (M.ret (.int 4294967029))) (gSet 5))
 (sSeq (sAsg (f2 gMod (fCallL gInt (fCons (f2 gMul (fRd (fPl 5)) (f2 gAdd (fRd (fPl 5)) (M.ret (.int 75013)))) fNil)) (M.ret (.int 4294966997))) (gSet 5))
 (sSeq (sAsg (f2 gMod (fCallL gInt (fCons (f2 gAdd (f2 gAdd (f2 gMul (fRd (fPl 5)) (fRd (fPl 5))) (f2 gMul (M.ret (.int 30427)) (fRd (fPl 5)))) (f2 gMul (M.ret (.int 19)) (fRd (fPl 3)))) fNil)) (M.ret (.int 4294966981))) (gSet 5))
 (sRet (f2 gMod (fCallL gInt (fCons (f2 gDiv (f2 gMod (fCallL gInt (fCons (f2 gMul (fRd (fPl 5)) (f2 gAdd (fRd (fPl 5)) (M.ret (.int 58111)))) fNil)) (M.ret (.int 4294966943))) (M.ret (.int 64))) fNil)) (fRd (fPl 1))))))))))))))
def f__law_draw : CF := runF [true, true] 6 b__law_draw
def b__law_pick : FS :=
 (sRet (f2 gIxT (fRd (fPl 1)) (fCall f__law_draw (fAI 0 (fAV (fLenB (fPl 1)) fANil)))))
def f__law_pick : CF := runF [true, true] 2 b__law_pick
def l__law_shuffled_1 : FS :=
 (sExpr (fBmV isLst mAppend 3 (fCons (fBmV isLst mPopAt 2 (fCons (fCall f__law_draw (fAI 0 (fAV (fLenB (fPl 2)) fANil))) fNil)) fNil)))
def b__law_shuffled : FS :=
 (sSeq (sPar (fCons (fCallL gList (fCons (fRd (fPl 1)) fNil)) (fCons (fCallL gLstL fNil) fNil)) (gsCons (gSet 2) (gsCons (gSet 3) gsNil)))
 (sSeq (sWhile FU (cEmp true (fPl 2)) l__law_shuffled_1)
 (sRet (fMv 3))))
def f__law_shuffled : CF := runF [true, true] 4 b__law_shuffled
def b__law_new_names : FS :=
 (sSeq (sAsg (fCallL gLstL (fCons (M.ret (.str "x")) (fCons (M.ret (.str "y")) (fCons (M.ret (.str "v")) (fCons (M.ret (.str "w")) (fCons (M.ret (.str "f")) (fCons (M.ret (.str "g")) (fCons (M.ret (.str "r")) (fCons (M.ret (.str "q")) (fCons (M.ret (.str "s")) (fCons (M.ret (.str "t")) (fCons (M.ret (.str "ups")) (fCons (M.ret (.str "anyone")) (fCons (M.ret (.str "flags")) fNil)))))))))))))) (gSet 2))
 (sRet (fSl (fCall f__law_shuffled (fAI 0 (fAV (f2 gAdd (fRd (fPl 2)) (fCallL gLstL (fCons (M.ret (.str "olden")) (fCons (M.ret (.str "z")) (fCons (M.ret (.str "abcdefghijkl")) fNil))))) fANil))) (M.ret none) (pInt (fRd (fPl 1))))))
def f__law_new_names : CF := runF [true, true] 3 b__law_new_names
def b__law_classes : FS :=
 (sSeq (sAsg (fCallL gLstL (fCons (f1 (gIsX tb_BadChoice) (fRd (fPl 0))) (fCons (f1 (gIsX tb_BadClaim) (fRd (fPl 0))) (fCons (f1 (gIsX tb_BadPlan) (fRd (fPl 0))) fNil)))) (gSet 1))
 (sSeq (sAsg (f2 gAdd (fRd (fPl 1)) (fCallL gLstL (fCons (f1 (gIsX tb_BadValues) (fRd (fPl 0))) (fCons (f1 (gIsX tb_BadVersions) (fRd (fPl 0))) fNil)))) (gSet 1))
 (sSeq (sAsg (f2 gAdd (fRd (fPl 1)) (fCallL gLstL (fCons (f1 (gIsX tb_BadWorld) (fRd (fPl 0))) (fCons (f1 (gIsX tb_NoActor) (fRd (fPl 0))) (fCons (f1 (gIsX tb_NoReading) (fRd (fPl 0))) fNil))))) (gSet 1))
 (sSeq (sAsg (f2 gAdd (fRd (fPl 1)) (fCallL gLstL (fCons (f1 (gIsX tb_NoRegister) (fRd (fPl 0))) (fCons (f1 (gIsX tb_NotTogether) (fRd (fPl 0))) fNil)))) (gSet 1))
 (sSeq (sExpr (fBmV isLst mAppend 1 (fCons (f1 (gIsX tb_NothingToUndo) (fRd (fPl 0))) fNil)))
 (sRet (fCallL gLenL (fCons (fLc (fItems (fRd (fPl 1)) anyItems) [2] (gSet 2) (fTest (fRd (fPl 2))) (fRd (fPl 2))) fNil))))))))
def f__law_classes : CF := runF [true] 3 b__law_classes
def b__law_is_one : FS :=
 (sSeq (sAsg (vAnd (f1 (gIsX tb_TurnError) (fRd (fPl 0))) (f1 (gIsX tb_ValueError) (fRd (fPl 0)))) (gSet 2))
 (sRet (vAnd (fRd (fPl 1)) (vAnd (fRd (fPl 2)) (vC gEq (fCall f__law_classes (fAV (fRd (fPl 0)) fANil)) (M.ret (.int 1)))))))
def f__law_is_one : CF := runF [true, true] 3 b__law_is_one
def b__law_fielded : FS :=
 (sSeq (sPar (fCons (f1 (gErr1 1 "line" ok_BadWorld) (fRd (fPl 0))) (fCons (f1 (gErr1 8 "line" ok_BadPlan) (fRd (fPl 0))) (fCons (f1 (gErr1 5 "index" ok_BadValues) (fRd (fPl 0))) fNil))) (gsCons (gSet 2) (gsCons (gSet 3) (gsCons (gSet 4) gsNil))))
 (sSeq (sPar (fCons (f1 (gErr1 3 "name" ok_NoReading) (fRd (fPl 1))) (fCons (f1 (gErr1 6 "name" ok_NoActor) (fRd (fPl 1))) (fCons (f1 (gErr1 10 "name" ok_NoRegister) (fRd (fPl 1))) fNil))) (gsCons (gSet 5) (gsCons (gSet 6) (gsCons (gSet 7) gsNil))))
 (sSeq (sAsg (fCallL gLstL (fCons (fCallL gTupL (fCons (fRd (fPl 2)) (fCons (f1 (gXfld oc_line "line") (fRd (fPl 2))) (fCons (fRd (fPl 0)) (fCons (f1 (gIsX tb_BadWorld) (fRd (fPl 2))) fNil))))) fNil)) (gSet 8))
 (sSeq (sExpr (fBmV isLst mAppend 8 (fCons (fCallL gTupL (fCons (fRd (fPl 3)) (fCons (f1 (gXfld oc_line "line") (fRd (fPl 3))) (fCons (fRd (fPl 0)) (fCons (f1 (gIsX tb_BadPlan) (fRd (fPl 3))) fNil))))) fNil)))
 (sSeq (sExpr (fBmV isLst mAppend 8 (fCons (fCallL gTupL (fCons (fRd (fPl 4)) (fCons (f1 (gXfld oc_index "index") (fRd (fPl 4))) (fCons (fRd (fPl 0)) (fCons (f1 (gIsX tb_BadValues) (fRd (fPl 4))) fNil))))) fNil)))
 (sSeq (sExpr (fBmV isLst mAppend 8 (fCons (fCallL gTupL (fCons (fRd (fPl 5)) (fCons (f1 (gXfld oc_name "name") (fRd (fPl 5))) (fCons (fRd (fPl 1)) (fCons (f1 (gIsX tb_NoReading) (fRd (fPl 5))) fNil))))) fNil)))
 (sSeq (sExpr (fBmV isLst mAppend 8 (fCons (fCallL gTupL (fCons (fRd (fPl 6)) (fCons (f1 (gXfld oc_name "name") (fRd (fPl 6))) (fCons (fRd (fPl 1)) (fCons (f1 (gIsX tb_NoActor) (fRd (fPl 6))) fNil))))) fNil)))
 (sRet (f2 gAdd (fRd (fPl 8)) (fCallL gLstL (fCons (fCallL gTupL (fCons (fRd (fPl 7)) (fCons (f1 (gXfld oc_name "name") (fRd (fPl 7))) (fCons (fRd (fPl 1)) (fCons (f1 (gIsX tb_NoRegister) (fRd (fPl 7))) fNil))))) fNil)))))))))))
def f__law_fielded : CF := runF [true, true] 9 b__law_fielded
def b__law_plain_right : FS :=
 (sSeq (sPar (fCons (M.ret (.nd (.err 2 []) [])) (fCons (M.ret (.nd (.err 4 []) [])) (fCons (M.ret (.nd (.err 7 []) [])) fNil))) (gsCons (gSet 0) (gsCons (gSet 1) (gsCons (gSet 2) gsNil))))
 (sSeq (sPar (fCons (M.ret (.nd (.err 9 []) [])) (fCons (M.ret (.nd (.err 11 []) [])) fNil)) (gsCons (gSet 3) (gsCons (gSet 4) gsNil)))
 (sSeq (sAsg (fCallL gLstL (fCons (fCall f__law_is_one (fAV (fRd (fPl 0)) (fAV (f1 (gIsX tb_BadClaim) (fRd (fPl 0))) fANil))) fNil)) (gSet 5))
 (sSeq (sExpr (fBmV isLst mAppend 5 (fCons (fCall f__law_is_one (fAV (fRd (fPl 1)) (fAV (f1 (gIsX tb_NotTogether) (fRd (fPl 1))) fANil))) fNil)))
 (sSeq (sExpr (fBmV isLst mAppend 5 (fCons (fCall f__law_is_one (fAV (fRd (fPl 2)) (fAV (f1 (gIsX tb_BadVersions) (fRd (fPl 2))) fANil))) fNil)))
 (sSeq (sExpr (fBmV isLst mAppend 5 (fCons (fCall f__law_is_one (fAV (fRd (fPl 3)) (fAV (f1 (gIsX tb_BadChoice) (fRd (fPl 3))) fANil))) fNil)))
 (sSeq (sExpr (fBmV isLst mAppend 5 (fCons (fCall f__law_is_one (fAV (fRd (fPl 4)) (fAV (f1 (gIsX tb_NothingToUndo) (fRd (fPl 4))) fANil))) fNil)))
 (sRet (vB gNotIn (M.ret (.bl false)) (fPl 5))))))))))
def f__law_plain_right : CF := runF [] 6 b__law_plain_right
def l_law_1 : FS :=
 (sIf (bOr (cC gNeS (fCallL gReprA (fCons (fRd (fPl 10)) fNil)) (fCallL gReprA (fCons (fRd (fPl 11)) fNil))) (bNot (fTest (fCall f__law_is_one (fAV (fRd (fPl 9)) (fAV (fRd (fPl 12)) fANil))))))
 (sRet (M.ret (.bl false)))
 sNext)
def l_law_2 : FS :=
 (sFor (fItems (fCallL gTupL (fCons (fRd (fIx (xVar 8) (fPl 6))) (fCons (fRd (fIx (xVar 8) (fPl 7))) fNil))) anyItems) (gTupT 4 (gsCons (gSet 9) (gsCons (gSet 10) (gsCons (gSet 11) (gsCons (gSet 12) gsNil))))) l_law_1)
def l_law_3 : FS :=
 (sSeq (sAsg (f2 gSub (fCall f__law_draw (fAI 1 (fAV (f2 gPow (M.ret (.int 10)) (M.ret (.int 60))) fANil))) (f2 gIxT (fCallL gLstL (fCons (f2 gPow (M.ret (.int 10)) (M.ret (.int 60))) (fCons (M.ret (.int 0)) (fCons (fCall f__law_pick (fAI 1 (fAV (fCallL gLstL (fCons (M.ret (.int 0)) (fCons (f2 gPow (M.ret (.int 10)) (M.ret (.int 59))) fNil))) fANil))) fNil)))) (fRd (fPl 2)))) (gSet 3))
 (sSeq (sAsg (fCall f__law_new_names (fAI 1 (fAV (M.ret (.int 2)) fANil))) (gUnlT 2 (gsCons (gSet 4) (gsCons (gSet 5) gsNil))))
 (sSeq (sPar (fCons (fCall f__law_fielded (fAV (fRd (fPl 3)) (fAV (fRd (fPl 4)) fANil))) (fCons (fCall f__law_fielded (fAV (f2 gAdd (fRd (fPl 3)) (M.ret (.int 1))) (fAV (fRd (fPl 5)) fANil))) fNil)) (gsCons (gSet 6) (gsCons (gSet 7) gsNil)))
 (sSeq (sFor (fItemsL (fCons (M.ret (.int 6)) fNil) rngItems) (gSet 8) l_law_2)
 (sSeq (sAsg (fCallL gLstL (fCons (f1 (gXfld oc_line "line") (fRd (fIx (xC (.int 0)) (fIx (xC (.int 0)) (fPl 6))))) (fCons (f1 (gXfld oc_line "line") (fRd (fIx (xC (.int 0)) (fIx (xC (.int 1)) (fPl 6))))) (fCons (f1 (gXfld oc_index "index") (fRd (fIx (xC (.int 0)) (fIx (xC (.int 2)) (fPl 6))))) fNil)))) (gSet 13))
 (sSeq (sAsg (fCallL gLstL (fCons (f1 (gXfld oc_name "name") (fRd (fIx (xC (.int 0)) (fIx (xC (.int 3)) (fPl 6))))) (fCons (f1 (gXfld oc_name "name") (fRd (fIx (xC (.int 0)) (fIx (xC (.int 4)) (fPl 6))))) (fCons (f1 (gXfld oc_name "name") (fRd (fIx (xC (.int 0)) (fIx (xC (.int 5)) (fPl 6))))) fNil)))) (gSet 14))
 (sSeq (sIf (bOr (cC gNe (fRd (fPl 13)) (f2 gMul2 (fCallL gLstL (fCons (fRd (fPl 3)) fNil)) (M.ret (.int 3)))) (cC gNe (fRd (fPl 14)) (f2 gMul2 (fCallL gLstL (fCons (fRd (fPl 4)) fNil)) (M.ret (.int 3)))))
 (sRet (M.ret (.bl false)))
 sNext)
 (sIf (bNot (fTest (fCall f__law_plain_right fANil)))
 (sRet (M.ret (.bl false)))
 sNext))))))))
def b_law : FS :=
 (sSeq (sAsg (fCall f__law_begun_pen (fAV (fRd (fPl 0)) fANil)) (gSet 1))
 (sSeq (sFor (fItemsL (fCons (M.ret (.int 3)) fNil) rngItems) (gSet 2) l_law_3)
 (sRet (M.ret (.bl true)))))
def f_law : CF := runF [true] 15 b_law
structure Tx (P : Program) (K : PySem.W.Frag) (mg : Str → Option Value) (ct : Nat → Addr) (ef : Nat → List Str) where
  fa : Nat → Addr
  fd : Nat → FuncData
  htop : (P.main.scope.names.lookup ("super" : Str)).isSome = false
  n_ValueError : mg "ValueError" = none
  n_abs : mg "abs" = none
  n_int : mg "int" = none
  n_isinstance : mg "isinstance" = none
  n_len : mg "len" = none
  n_list : mg "list" = none
  n_range : mg "range" = none
  n_repr : mg "repr" = none
  n_super : mg "super" = none
  F__law_begun_pen : Fun K "_law_begun_pen" "_law_begun_pen" s__law_begun_pen (fa 11) (fd 11)
  b__law_begun_pen : Binds K (fd 11) ["script"] []
  g__law_begun_pen : mg "_law_begun_pen" = some (.ref (fa 11))
  p__law_begun_pen : PySem.W.keepIn K (.ref (fa 11)) = true
  F__law_draw : Fun K "_law_draw" "_law_draw" s__law_draw (fa 12) (fd 12)
  b__law_draw : Binds K (fd 12) ["pen", "span"] []
  g__law_draw : mg "_law_draw" = some (.ref (fa 12))
  p__law_draw : PySem.W.keepIn K (.ref (fa 12)) = true
  F__law_pick : Fun K "_law_pick" "_law_pick" s__law_pick (fa 13) (fd 13)
  b__law_pick : Binds K (fd 13) ["pen", "options"] []
  g__law_pick : mg "_law_pick" = some (.ref (fa 13))
  p__law_pick : PySem.W.keepIn K (.ref (fa 13)) = true
  F__law_shuffled : Fun K "_law_shuffled" "_law_shuffled" s__law_shuffled (fa 14) (fd 14)
  b__law_shuffled : Binds K (fd 14) ["pen", "items"] []
  g__law_shuffled : mg "_law_shuffled" = some (.ref (fa 14))
  p__law_shuffled : PySem.W.keepIn K (.ref (fa 14)) = true
  F__law_new_names : Fun K "_law_new_names" "_law_new_names" s__law_new_names (fa 15) (fd 15)
  b__law_new_names : Binds K (fd 15) ["pen", "many"] []
  g__law_new_names : mg "_law_new_names" = some (.ref (fa 15))
  p__law_new_names : PySem.W.keepIn K (.ref (fa 15)) = true
  F__law_classes : Fun K "_law_classes" "_law_classes" s__law_classes (fa 16) (fd 16)
  b__law_classes : Binds K (fd 16) ["e"] []
  g__law_classes : mg "_law_classes" = some (.ref (fa 16))
  p__law_classes : PySem.W.keepIn K (.ref (fa 16)) = true
  F__law_is_one : Fun K "_law_is_one" "_law_is_one" s__law_is_one (fa 17) (fd 17)
  b__law_is_one : Binds K (fd 17) ["e", "is_own"] []
  g__law_is_one : mg "_law_is_one" = some (.ref (fa 17))
  p__law_is_one : PySem.W.keepIn K (.ref (fa 17)) = true
  F__law_fielded : Fun K "_law_fielded" "_law_fielded" s__law_fielded (fa 18) (fd 18)
  b__law_fielded : Binds K (fd 18) ["number", "text"] []
  g__law_fielded : mg "_law_fielded" = some (.ref (fa 18))
  p__law_fielded : PySem.W.keepIn K (.ref (fa 18)) = true
  F__law_plain_right : Fun K "_law_plain_right" "_law_plain_right" s__law_plain_right (fa 19) (fd 19)
  b__law_plain_right : Binds K (fd 19) [] []
  g__law_plain_right : mg "_law_plain_right" = some (.ref (fa 19))
  p__law_plain_right : PySem.W.keepIn K (.ref (fa 19)) = true
  F_law : Fun K "law" "law" s_law (fa 20) (fd 20)
  b_law : Binds K (fd 20) ["script"] []
  g_law : mg "law" = some (.ref (fa 20))
  p_law : PySem.W.keepIn K (.ref (fa 20)) = true
  x_BadWorld : ExF P K "BadWorld.__init__" s_BadWorld___init__ (ct 1) (fa 0) (fd 0) ["self", "line"]
  x_BadPlan : ExF P K "BadPlan.__init__" s_BadPlan___init__ (ct 8) (fa 7) (fd 7) ["self", "line"]
  x_BadValues : ExF P K "BadValues.__init__" s_BadValues___init__ (ct 5) (fa 4) (fd 4) ["self", "index"]
  x_NoReading : ExF P K "NoReading.__init__" s_NoReading___init__ (ct 3) (fa 2) (fd 2) ["self", "name"]
  x_NoActor : ExF P K "NoActor.__init__" s_NoActor___init__ (ct 6) (fa 5) (fd 5) ["self", "name"]
  x_NoRegister : ExF P K "NoRegister.__init__" s_NoRegister___init__ (ct 10) (fa 9) (fd 9) ["self", "name"]
  x_BadClaim : ExF P K "BadClaim.__init__" s_BadClaim___init__ (ct 2) (fa 1) (fd 1) ["self"]
  x_NotTogether : ExF P K "NotTogether.__init__" s_NotTogether___init__ (ct 4) (fa 3) (fd 3) ["self"]
  x_BadVersions : ExF P K "BadVersions.__init__" s_BadVersions___init__ (ct 7) (fa 6) (fd 6) ["self"]
  x_BadChoice : ExF P K "BadChoice.__init__" s_BadChoice___init__ (ct 9) (fa 8) (fd 8) ["self"]
  x_NothingToUndo : ExF P K "NothingToUndo.__init__" s_NothingToUndo___init__ (ct 11) (fa 10) (fd 10) ["self"]
  xn_BadWorld : PySem.W.findIn K (.ref (ct 1)) "line" = some none
  ef_BadWorld : ef 1 = [("line" : Str)]
  xn_BadPlan : PySem.W.findIn K (.ref (ct 8)) "line" = some none
  ef_BadPlan : ef 8 = [("line" : Str)]
  xn_BadValues : PySem.W.findIn K (.ref (ct 5)) "index" = some none
  ef_BadValues : ef 5 = [("index" : Str)]
  xn_NoReading : PySem.W.findIn K (.ref (ct 3)) "name" = some none
  ef_NoReading : ef 3 = [("name" : Str)]
  xn_NoActor : PySem.W.findIn K (.ref (ct 6)) "name" = some none
  ef_NoActor : ef 6 = [("name" : Str)]
  xn_NoRegister : PySem.W.findIn K (.ref (ct 10)) "name" = some none
  ef_NoRegister : ef 10 = [("name" : Str)]
  g_BadChoice : mg "BadChoice" = some (.ref (ct 9))
  g_BadClaim : mg "BadClaim" = some (.ref (ct 2))
  g_BadPlan : mg "BadPlan" = some (.ref (ct 8))
  g_BadValues : mg "BadValues" = some (.ref (ct 5))
  g_BadVersions : mg "BadVersions" = some (.ref (ct 7))
  g_BadWorld : mg "BadWorld" = some (.ref (ct 1))
  g_NoActor : mg "NoActor" = some (.ref (ct 6))
  g_NoReading : mg "NoReading" = some (.ref (ct 3))
  g_NoRegister : mg "NoRegister" = some (.ref (ct 10))
  g_NotTogether : mg "NotTogether" = some (.ref (ct 4))
  g_NothingToUndo : mg "NothingToUndo" = some (.ref (ct 11))
  g_TurnError : mg "TurnError" = some (.ref (ct 0))
  xf_BadWorld : XfC K (ct 1)
  xf_BadPlan : XfC K (ct 8)
  xf_BadValues : XfC K (ct 5)
  xf_NoReading : XfC K (ct 3)
  xf_NoActor : XfC K (ct 6)
  xf_NoRegister : XfC K (ct 10)
  xE : ∀ k, k ∈ mkN → L2.ExcC K (ct k)
  kx_BadChoice : ∀ k b, tb_BadChoice k = some b → PySem.W.kitOne K (.ref (ct k)) (.ref (ct 9)) = some b
  kx_BadClaim : ∀ k b, tb_BadClaim k = some b → PySem.W.kitOne K (.ref (ct k)) (.ref (ct 2)) = some b
  kx_BadPlan : ∀ k b, tb_BadPlan k = some b → PySem.W.kitOne K (.ref (ct k)) (.ref (ct 8)) = some b
  kx_BadValues : ∀ k b, tb_BadValues k = some b → PySem.W.kitOne K (.ref (ct k)) (.ref (ct 5)) = some b
  kx_BadVersions : ∀ k b, tb_BadVersions k = some b → PySem.W.kitOne K (.ref (ct k)) (.ref (ct 7)) = some b
  kx_BadWorld : ∀ k b, tb_BadWorld k = some b → PySem.W.kitOne K (.ref (ct k)) (.ref (ct 1)) = some b
  kx_NoActor : ∀ k b, tb_NoActor k = some b → PySem.W.kitOne K (.ref (ct k)) (.ref (ct 6)) = some b
  kx_NoReading : ∀ k b, tb_NoReading k = some b → PySem.W.kitOne K (.ref (ct k)) (.ref (ct 3)) = some b
  kx_NoRegister : ∀ k b, tb_NoRegister k = some b → PySem.W.kitOne K (.ref (ct k)) (.ref (ct 10)) = some b
  kx_NotTogether : ∀ k b, tb_NotTogether k = some b → PySem.W.kitOne K (.ref (ct k)) (.ref (ct 4)) = some b
  kx_NothingToUndo : ∀ k b, tb_NothingToUndo k = some b → PySem.W.kitOne K (.ref (ct k)) (.ref (ct 11)) = some b
  kx_TurnError : ∀ k b, tb_TurnError k = some b → PySem.W.kitOne K (.ref (ct k)) (.ref (ct 0)) = some b
  kx_ValueError : ∀ k b, tb_ValueError k = some b → PySem.W.kitOne K (.ref (ct k)) (.type "ValueError") = some b
variable {P : Program} {w : World} {K : PySem.W.Frag} {mg : Str → Option Value} {base : Heap} {ct : Nat → Addr} {ef : Nat → List Str}
abbrev N__law_begun_pen : List Str := ["script"]
theorem sc__law_begun_pen : FnScope N__law_begun_pen ["script"] (defScope s__law_begun_pen) := ⟨rfl, rfl, rfl, by decide +kernel, rfl, by decide +kernel, by decide +kernel⟩
abbrev N__law_draw : List Str := ["pen", "span", "digit", "turn", "cell", "mixed"]
theorem sc__law_draw : FnScope N__law_draw ["pen", "span"] (defScope s__law_draw) := ⟨rfl, rfl, rfl, by decide +kernel, rfl, by decide +kernel, by decide +kernel⟩
abbrev N__law_pick : List Str := ["pen", "options"]
theorem sc__law_pick : FnScope N__law_pick ["pen", "options"] (defScope s__law_pick) := ⟨rfl, rfl, rfl, by decide +kernel, rfl, by decide +kernel, by decide +kernel⟩
abbrev N__law_shuffled : List Str := ["pen", "items", "rest", "found"]
theorem sc__law_shuffled : FnScope N__law_shuffled ["pen", "items"] (defScope s__law_shuffled) := ⟨rfl, rfl, rfl, by decide +kernel, rfl, by decide +kernel, by decide +kernel⟩
abbrev N__law_new_names : List Str := ["pen", "many", "found"]
theorem sc__law_new_names : FnScope N__law_new_names ["pen", "many"] (defScope s__law_new_names) := ⟨rfl, rfl, rfl, by decide +kernel, rfl, by decide +kernel, by decide +kernel⟩
abbrev N__law_classes : List Str := ["e", "found", "one"]
theorem sc__law_classes : FnScope N__law_classes ["e"] (defScope s__law_classes) := ⟨rfl, rfl, rfl, by decide +kernel, rfl, by decide +kernel, by decide +kernel⟩
abbrev N__law_is_one : List Str := ["e", "is_own", "is_based"]
theorem sc__law_is_one : FnScope N__law_is_one ["e", "is_own"] (defScope s__law_is_one) := ⟨rfl, rfl, rfl, by decide +kernel, rfl, by decide +kernel, by decide +kernel⟩
abbrev N__law_fielded : List Str := ["number", "text", "one", "two", "three", "four", "five", "six", "found"]
theorem sc__law_fielded : FnScope N__law_fielded ["number", "text"] (defScope s__law_fielded) := ⟨rfl, rfl, rfl, by decide +kernel, rfl, by decide +kernel, by decide +kernel⟩
abbrev N__law_plain_right : List Str := ["one", "two", "three", "four", "five", "found"]
theorem sc__law_plain_right : FnScope N__law_plain_right [] (defScope s__law_plain_right) := ⟨rfl, rfl, rfl, by decide +kernel, rfl, by decide +kernel, by decide +kernel⟩
abbrev N_law : List Str := ["script", "pen", "turn", "number", "text", "other", "made", "others", "k", "e", "field", "due", "is_own", "again", "names"]
theorem sc_law : FnScope N_law ["script"] (defScope s_law) := ⟨rfl, rfl, rfl, by decide +kernel, rfl, by decide +kernel, by decide +kernel⟩
theorem ok_BadWorld___init__ (t : Tx P K mg ct ef) : FnOk P w K mg base (L2.CX P w) 1 (t.fa 0) (t.fd 0) ["self", "line"] (spI1 (ct 1) "line" okInt) :=
  initF_ok t.x_BadWorld (NdefX.nscope_by (by decide +kernel)) (by rfl) (by rfl) (by rfl) (by rfl) t.htop t.n_super (fun cc cda L => ⟨_, rfl⟩) (by decide) (by decide) t.xn_BadWorld (by decide) (by decide)
theorem ok_BadPlan___init__ (t : Tx P K mg ct ef) : FnOk P w K mg base (L2.CX P w) 1 (t.fa 7) (t.fd 7) ["self", "line"] (spI1 (ct 8) "line" okInt) :=
  initF_ok t.x_BadPlan (NdefX.nscope_by (by decide +kernel)) (by rfl) (by rfl) (by rfl) (by rfl) t.htop t.n_super (fun cc cda L => ⟨_, rfl⟩) (by decide) (by decide) t.xn_BadPlan (by decide) (by decide)
theorem ok_BadValues___init__ (t : Tx P K mg ct ef) : FnOk P w K mg base (L2.CX P w) 1 (t.fa 4) (t.fd 4) ["self", "index"] (spI1 (ct 5) "index" okInt) :=
  initF_ok t.x_BadValues (NdefX.nscope_by (by decide +kernel)) (by rfl) (by rfl) (by rfl) (by rfl) t.htop t.n_super (fun cc cda L => ⟨_, rfl⟩) (by decide) (by decide) t.xn_BadValues (by decide) (by decide)
theorem ok_NoReading___init__ (t : Tx P K mg ct ef) : FnOk P w K mg base (L2.CX P w) 1 (t.fa 2) (t.fd 2) ["self", "name"] (spI1 (ct 3) "name" (fun _ => True)) :=
  initC_ok t.x_NoReading (NdefX.nscope_by (by decide +kernel)) (by rfl) (by rfl) (by rfl) (by rfl) t.htop t.n_super (fun cc cda L => ⟨_, rfl⟩) (by decide) (by decide) t.xn_NoReading
theorem ok_NoActor___init__ (t : Tx P K mg ct ef) : FnOk P w K mg base (L2.CX P w) 1 (t.fa 5) (t.fd 5) ["self", "name"] (spI1 (ct 6) "name" (fun _ => True)) :=
  initC_ok t.x_NoActor (NdefX.nscope_by (by decide +kernel)) (by rfl) (by rfl) (by rfl) (by rfl) t.htop t.n_super (fun cc cda L => ⟨_, rfl⟩) (by decide) (by decide) t.xn_NoActor
theorem ok_NoRegister___init__ (t : Tx P K mg ct ef) : FnOk P w K mg base (L2.CX P w) 1 (t.fa 9) (t.fd 9) ["self", "name"] (spI1 (ct 10) "name" (fun _ => True)) :=
  initC_ok t.x_NoRegister (NdefX.nscope_by (by decide +kernel)) (by rfl) (by rfl) (by rfl) (by rfl) t.htop t.n_super (fun cc cda L => ⟨_, rfl⟩) (by decide) (by decide) t.xn_NoRegister
theorem ok_BadClaim___init__ (t : Tx P K mg ct ef) : FnOk P w K mg base (L2.CX P w) 1 (t.fa 1) (t.fd 1) ["self"] (spI0 (ct 2)) :=
  init0_ok t.x_BadClaim (NdefX.nscope_by (by decide +kernel)) (by rfl) (by rfl) (by rfl) (by rfl) t.htop t.n_super (fun cc cda L => ⟨_, rfl⟩)
theorem ok_NotTogether___init__ (t : Tx P K mg ct ef) : FnOk P w K mg base (L2.CX P w) 1 (t.fa 3) (t.fd 3) ["self"] (spI0 (ct 4)) :=
  init0_ok t.x_NotTogether (NdefX.nscope_by (by decide +kernel)) (by rfl) (by rfl) (by rfl) (by rfl) t.htop t.n_super (fun cc cda L => ⟨_, rfl⟩)
theorem ok_BadVersions___init__ (t : Tx P K mg ct ef) : FnOk P w K mg base (L2.CX P w) 1 (t.fa 6) (t.fd 6) ["self"] (spI0 (ct 7)) :=
  init0_ok t.x_BadVersions (NdefX.nscope_by (by decide +kernel)) (by rfl) (by rfl) (by rfl) (by rfl) t.htop t.n_super (fun cc cda L => ⟨_, rfl⟩)
theorem ok_BadChoice___init__ (t : Tx P K mg ct ef) : FnOk P w K mg base (L2.CX P w) 1 (t.fa 8) (t.fd 8) ["self"] (spI0 (ct 9)) :=
  init0_ok t.x_BadChoice (NdefX.nscope_by (by decide +kernel)) (by rfl) (by rfl) (by rfl) (by rfl) t.htop t.n_super (fun cc cda L => ⟨_, rfl⟩)
theorem ok_NothingToUndo___init__ (t : Tx P K mg ct ef) : FnOk P w K mg base (L2.CX P w) 1 (t.fa 10) (t.fd 10) ["self"] (spI0 (ct 11)) :=
  init0_ok t.x_NothingToUndo (NdefX.nscope_by (by decide +kernel)) (by rfl) (by rfl) (by rfl) (by rfl) t.htop t.n_super (fun cc cda L => ⟨_, rfl⟩)
theorem htb_BadChoice (t : Tx P K mg ct ef) : ∀ k b, tb_BadChoice k = some b → L2.ExcC K (ct k) ∧ PySem.W.kitOne K (.ref (ct k)) (.ref (ct 9)) = some b := fun k b h => ⟨t.xE k (tn_BadChoice k b h), t.kx_BadChoice k b h⟩
theorem htb_BadClaim (t : Tx P K mg ct ef) : ∀ k b, tb_BadClaim k = some b → L2.ExcC K (ct k) ∧ PySem.W.kitOne K (.ref (ct k)) (.ref (ct 2)) = some b := fun k b h => ⟨t.xE k (tn_BadClaim k b h), t.kx_BadClaim k b h⟩
theorem htb_BadPlan (t : Tx P K mg ct ef) : ∀ k b, tb_BadPlan k = some b → L2.ExcC K (ct k) ∧ PySem.W.kitOne K (.ref (ct k)) (.ref (ct 8)) = some b := fun k b h => ⟨t.xE k (tn_BadPlan k b h), t.kx_BadPlan k b h⟩
theorem htb_BadValues (t : Tx P K mg ct ef) : ∀ k b, tb_BadValues k = some b → L2.ExcC K (ct k) ∧ PySem.W.kitOne K (.ref (ct k)) (.ref (ct 5)) = some b := fun k b h => ⟨t.xE k (tn_BadValues k b h), t.kx_BadValues k b h⟩
theorem htb_BadVersions (t : Tx P K mg ct ef) : ∀ k b, tb_BadVersions k = some b → L2.ExcC K (ct k) ∧ PySem.W.kitOne K (.ref (ct k)) (.ref (ct 7)) = some b := fun k b h => ⟨t.xE k (tn_BadVersions k b h), t.kx_BadVersions k b h⟩
theorem htb_BadWorld (t : Tx P K mg ct ef) : ∀ k b, tb_BadWorld k = some b → L2.ExcC K (ct k) ∧ PySem.W.kitOne K (.ref (ct k)) (.ref (ct 1)) = some b := fun k b h => ⟨t.xE k (tn_BadWorld k b h), t.kx_BadWorld k b h⟩
theorem htb_NoActor (t : Tx P K mg ct ef) : ∀ k b, tb_NoActor k = some b → L2.ExcC K (ct k) ∧ PySem.W.kitOne K (.ref (ct k)) (.ref (ct 6)) = some b := fun k b h => ⟨t.xE k (tn_NoActor k b h), t.kx_NoActor k b h⟩
theorem htb_NoReading (t : Tx P K mg ct ef) : ∀ k b, tb_NoReading k = some b → L2.ExcC K (ct k) ∧ PySem.W.kitOne K (.ref (ct k)) (.ref (ct 3)) = some b := fun k b h => ⟨t.xE k (tn_NoReading k b h), t.kx_NoReading k b h⟩
theorem htb_NoRegister (t : Tx P K mg ct ef) : ∀ k b, tb_NoRegister k = some b → L2.ExcC K (ct k) ∧ PySem.W.kitOne K (.ref (ct k)) (.ref (ct 10)) = some b := fun k b h => ⟨t.xE k (tn_NoRegister k b h), t.kx_NoRegister k b h⟩
theorem htb_NotTogether (t : Tx P K mg ct ef) : ∀ k b, tb_NotTogether k = some b → L2.ExcC K (ct k) ∧ PySem.W.kitOne K (.ref (ct k)) (.ref (ct 4)) = some b := fun k b h => ⟨t.xE k (tn_NotTogether k b h), t.kx_NotTogether k b h⟩
theorem htb_NothingToUndo (t : Tx P K mg ct ef) : ∀ k b, tb_NothingToUndo k = some b → L2.ExcC K (ct k) ∧ PySem.W.kitOne K (.ref (ct k)) (.ref (ct 11)) = some b := fun k b h => ⟨t.xE k (tn_NothingToUndo k b h), t.kx_NothingToUndo k b h⟩
theorem htb_TurnError (t : Tx P K mg ct ef) : ∀ k b, tb_TurnError k = some b → L2.ExcC K (ct k) ∧ PySem.W.kitOne K (.ref (ct k)) (.ref (ct 0)) = some b := fun k b h => ⟨t.xE k (tn_TurnError k b h), t.kx_TurnError k b h⟩
theorem htb_ValueError (t : Tx P K mg ct ef) : ∀ k b, tb_ValueError k = some b → L2.ExcC K (ct k) ∧ PySem.W.kitOne K (.ref (ct k)) (.type "ValueError") = some b := fun k b h => ⟨t.xE k (tn_ValueError k b h), t.kx_ValueError k b h⟩
theorem hoc_index (t : Tx P K mg ct ef) : ∀ k, oc_index k = true → XfC K (ct k) ∧ PySem.W.findIn K (.ref (ct k)) "index" = some none := by
  intro k h
  unfold oc_index at h
  split at h
  · exact ⟨t.xf_BadValues, t.xn_BadValues⟩
  · cases h
theorem hoc_line (t : Tx P K mg ct ef) : ∀ k, oc_line k = true → XfC K (ct k) ∧ PySem.W.findIn K (.ref (ct k)) "line" = some none := by
  intro k h
  unfold oc_line at h
  split at h
  · exact ⟨t.xf_BadWorld, t.xn_BadWorld⟩
  · exact ⟨t.xf_BadPlan, t.xn_BadPlan⟩
  · cases h
theorem hoc_name (t : Tx P K mg ct ef) : ∀ k, oc_name k = true → XfC K (ct k) ∧ PySem.W.findIn K (.ref (ct k)) "name" = some none := by
  intro k h
  unfold oc_name at h
  split at h
  · exact ⟨t.xf_NoReading, t.xn_NoReading⟩
  · exact ⟨t.xf_NoActor, t.xn_NoActor⟩
  · exact ⟨t.xf_NoRegister, t.xn_NoRegister⟩
  · cases h
theorem ok__law_begun_pen (t : Tx P K mg ct ef) : FnOk P w K mg base (L2.CX P w) 1 (t.fa 11) (t.fd 11) ["script"] (spF ⟨K, ct, ef⟩ f__law_begun_pen) :=
  def_ok (ct := ct) (ef := ef) (pr := [true]) t.F__law_begun_pen sc__law_begun_pen rfl fun cdv A outer s H E hr => by
  have nd := sc__law_begun_pen.nd
  have hu := hu_of hr
  have tk : Takes (dX P w K mg base N__law_begun_pen "_law_begun_pen" (defScope s__law_begun_pen) (t.fa 11) cdv A outer s H E) (dC ct ef E [true]).X := takes_of rfl rfl rfl rfl
  have lets := lets_of (c := dC ct ef E [true]) tk
  have own := own_d (P := P) (w := w) (K := K) (mg := mg) (base := base) (N := N__law_begun_pen) (qual := "_law_begun_pen") (sc := defScope s__law_begun_pen) (f := t.fa 11) (cdv := cdv) (A := A) (outer := outer) (s := s) (H := H) (E := E)
  exact (sss_one (ss_ret (se_disp (sps_cons se_str (se_callTy call_list_of sim_list (by rfl) t.n_list (by decide +kernel) (sl_cons (se_slice (se_var 0) sp_none (sp_some se_int)) sl_nil)) (sps_cons se_str se_int (sps_cons se_str se_int sps_nil))))))
theorem ok__law_draw (t : Tx P K mg ct ef) : FnOk P w K mg base (L2.CX P w) 1 (t.fa 12) (t.fd 12) ["pen", "span"] (spF ⟨K, ct, ef⟩ f__law_draw) :=
  def_ok (ct := ct) (ef := ef) (pr := [true, true]) t.F__law_draw sc__law_draw rfl fun cdv A outer s H E hr => by
  have nd := sc__law_draw.nd
  have hu := hu_of hr
  have tk : Takes (dX P w K mg base N__law_draw "_law_draw" (defScope s__law_draw) (t.fa 12) cdv A outer s H E) (dC ct ef E [true, true]).X := takes_of rfl rfl rfl rfl
  have lets := lets_of (c := dC ct ef E [true, true]) tk
  have own := own_d (P := P) (w := w) (K := K) (mg := mg) (base := base) (N := N__law_draw) (qual := "_law_draw") (sc := defScope s__law_draw) (f := t.fa 12) (cdv := cdv) (A := A) (outer := outer) (s := s) (H := H) (E := E)
  exact (sss_cons (ss_if (sc_cmpP (op_gt) sim_gt (se_rd (sb_ix hu (sb_var 0) sx_str)) se_int (nomark _))
 (sss_cons (ss_set 2 nd (by rfl) (se_op op_mod sim_mod (se_callTy call_intA sim_int (by rfl) t.n_int (by decide +kernel) (sl_cons (se_rd (sb_ix hu (sb_var 0) sx_str)) sl_nil)) (se_var 1)))
 (sss_cons (ss_asg (se_op op_fdivW sim_div (se_rd (sb_ix hu (sb_var 0) sx_str)) (se_var 1)) (sg_ix hu (sb_var 0) sx_str))
 (sss_one (ss_ret (se_mv 2)))))
 sss_nil)
 (sss_cons (ss_set 3 nd (by rfl) (se_rd (sb_ix hu (sb_var 0) sx_str)))
 (sss_cons (ss_asg (se_op op_addA sim_add (se_var 3) se_int) (sg_ix hu (sb_var 0) sx_str))
 (sss_cons (ss_set 4 nd (by rfl) (se_op op_addA sim_add (se_op op_mulA sim_mul se_int (se_var 3)) se_int))
 (sss_cons (ss_if (sc_empN hr.units (sb_ix hu (sb_var 0) sx_str))
 (sss_one (ss_set 4 nd (by rfl) (se_ix hu (se_rd (sb_ix hu (sb_var 0) sx_str)) (se_op op_mod sim_mod (se_callTy call_intA sim_int (by rfl) t.n_int (by decide +kernel) (sl_cons (se_var 3) sl_nil)) (se_lenB t.n_len (sb_ix hu (sb_var 0) sx_str))))))
 sss_nil)
 (sss_cons (ss_if (sw_pt (sw_and (sc_cmpP (op_lt) sim_lt (se_var 3) (se_lenB t.n_len (sb_ix hu (sb_var 0) sx_str)) (nomark _)) (sw_and1 (sc_cmpP (op_ge) sim_ge (se_callB call_abs sim_abs (by rfl) t.n_abs (by decide +kernel) (sl_cons (se_var 4) sl_nil)) (se_op op_pow sim_pow se_int se_int) (nomark _)))))
 (sss_cons (ss_asg (se_op op_fdivW sim_div (se_op op_sub sim_sub (se_callB call_abs sim_abs (by rfl) t.n_abs (by decide +kernel) (sl_cons (se_var 4) sl_nil)) (se_op op_pow sim_pow se_int se_int)) (se_var 1)) (sg_ix hu (sb_var 0) sx_str))
 (sss_one (ss_ret (se_op op_mod sim_mod (se_callTy call_intA sim_int (by rfl) t.n_int (by decide +kernel) (sl_cons (se_op op_sub sim_sub (se_callB call_abs sim_abs (by rfl) t.n_abs (by decide +kernel) (sl_cons (se_var 4) sl_nil)) (se_op op_pow sim_pow se_int se_int)) sl_nil)) (se_var 1)))))
 sss_nil)
 (sss_cons (ss_set 5 nd (by rfl) (se_op op_mulA sim_mul (se_op op_mod sim_mod (se_callTy call_intA sim_int (by rfl) t.n_int (by decide +kernel) (sl_cons (se_var 4) sl_nil)) se_int) se_int))
 (sss_cons (ss_set 5 nd (by rfl) (se_op op_mod sim_mod (se_callTy call_intA sim_int (by rfl) t.n_int (by decide +kernel) (sl_cons (se_op op_addA sim_add (se_op op_addA sim_add (se_var 5) (se_op op_mulA sim_mul (se_var 3) (se_op op_addA sim_add (se_op op_mulA sim_mul (se_var 3) se_int) se_int))) se_int) sl_nil)) se_int))
 (sss_cons (ss_set 5 nd (by rfl) (se_op op_mod sim_mod (se_callTy call_intA sim_int (by rfl) t.n_int (by decide +kernel) (sl_cons (se_op op_mulA sim_mul (se_var 5) (se_op op_addA sim_add (se_var 5) se_int)) sl_nil)) se_int))
 (sss_cons (ss_set 5 nd (by rfl) (se_op op_mod sim_mod (se_callTy call_intA sim_int (by rfl) t.n_int (by decide +kernel) (sl_cons (se_op op_addA sim_add (se_op op_addA sim_add (se_op op_mulA sim_mul (se_var 5) (se_var 5)) (se_op op_mulA sim_mul se_int (se_var 5))) (se_op op_mulA sim_mul se_int (se_var 3))) sl_nil)) se_int))
 (sss_one (ss_ret (se_op op_mod sim_mod (se_callTy call_intA sim_int (by rfl) t.n_int (by decide +kernel) (sl_cons (se_op op_fdivW sim_div (se_op op_mod sim_mod (se_callTy call_intA sim_int (by rfl) t.n_int (by decide +kernel) (sl_cons (se_op op_mulA sim_mul (se_var 5) (se_op op_addA sim_add (se_var 5) se_int)) sl_nil)) se_int) se_int) sl_nil)) (se_var 1))))))))))))))
theorem ok__law_pick (t : Tx P K mg ct ef) : FnOk P w K mg base (L2.CX P w) 2 (t.fa 13) (t.fd 13) ["pen", "options"] (spF ⟨K, ct, ef⟩ f__law_pick) :=
  def_ok (ct := ct) (ef := ef) (pr := [true, true]) t.F__law_pick sc__law_pick rfl fun cdv A outer s H E hr => by
  have nd := sc__law_pick.nd
  have hu := hu_of hr
  have tk : Takes (dX P w K mg base N__law_pick "_law_pick" (defScope s__law_pick) (t.fa 13) cdv A outer s H E) (dC ct ef E [true, true]).X := takes_of rfl rfl rfl rfl
  have lets := lets_of (c := dC ct ef E [true, true]) tk
  have own := own_d (P := P) (w := w) (K := K) (mg := mg) (base := base) (N := N__law_pick) (qual := "_law_pick") (sc := defScope s__law_pick) (f := t.fa 13) (cdv := cdv) (A := A) (outer := outer) (s := s) (H := H) (E := E)
  exact (sss_one (ss_ret (se_ix hu (se_var 1) (se_call (ok__law_draw t) (hr.mono (by decide)) lets t.g__law_draw t.F__law_draw.kp t.b__law_draw (sm_i 0 (sm_v (se_lenB t.n_len (sb_var 1)) sm_nil))))))
theorem ok__law_shuffled (t : Tx P K mg ct ef) : FnOk P w K mg base (L2.CX P w) 2 (t.fa 14) (t.fd 14) ["pen", "items"] (spF ⟨K, ct, ef⟩ f__law_shuffled) :=
  def_ok (ct := ct) (ef := ef) (pr := [true, true]) t.F__law_shuffled sc__law_shuffled rfl fun cdv A outer s H E hr => by
  have nd := sc__law_shuffled.nd
  have hu := hu_of hr
  have tk : Takes (dX P w K mg base N__law_shuffled "_law_shuffled" (defScope s__law_shuffled) (t.fa 14) cdv A outer s H E) (dC ct ef E [true, true]).X := takes_of rfl rfl rfl rfl
  have lets := lets_of (c := dC ct ef E [true, true]) tk
  have own := own_d (P := P) (w := w) (K := K) (mg := mg) (base := base) (N := N__law_shuffled) (qual := "_law_shuffled") (sc := defScope s__law_shuffled) (f := t.fa 14) (cdv := cdv) (A := A) (outer := outer) (s := s) (H := H) (E := E)
  exact (sss_cons (ss_par2 2 3 rfl nd (sl_cons (se_callTy call_list_of sim_list (by rfl) t.n_list (by decide +kernel) (sl_cons (se_var 1) sl_nil)) (sl_cons (se_lst sl_nil) sl_nil)) (by rfl) (by rfl))
 (sss_cons (ss_while (f := l__law_shuffled_1) FU own (sc_empN hr.units (sb_var 2))
 (sss_one (ss_expr (se_bmV PySem.F.plainAttrs_list PySem.F.slot_list_append PySem.F.type_list_append mt_append sim_append 3 (sl_cons (se_bmV PySem.F.plainAttrs_list PySem.F.slot_list_pop PySem.F.type_list_pop mt_popAt sim_popAt 2 (sl_cons (se_call (ok__law_draw t) (hr.mono (by decide)) lets t.g__law_draw t.F__law_draw.kp t.b__law_draw (sm_i 0 (sm_v (se_lenB t.n_len (sb_var 2)) sm_nil))) sl_nil)) sl_nil)))))
 (sss_one (ss_ret (se_mv 3)))))
theorem ok__law_new_names (t : Tx P K mg ct ef) : FnOk P w K mg base (L2.CX P w) 3 (t.fa 15) (t.fd 15) ["pen", "many"] (spF ⟨K, ct, ef⟩ f__law_new_names) :=
  def_ok (ct := ct) (ef := ef) (pr := [true, true]) t.F__law_new_names sc__law_new_names rfl fun cdv A outer s H E hr => by
  have nd := sc__law_new_names.nd
  have hu := hu_of hr
  have tk : Takes (dX P w K mg base N__law_new_names "_law_new_names" (defScope s__law_new_names) (t.fa 15) cdv A outer s H E) (dC ct ef E [true, true]).X := takes_of rfl rfl rfl rfl
  have lets := lets_of (c := dC ct ef E [true, true]) tk
  have own := own_d (P := P) (w := w) (K := K) (mg := mg) (base := base) (N := N__law_new_names) (qual := "_law_new_names") (sc := defScope s__law_new_names) (f := t.fa 15) (cdv := cdv) (A := A) (outer := outer) (s := s) (H := H) (E := E)
  exact (sss_cons (ss_set 2 nd (by rfl) (se_lst (sl_cons se_str (sl_cons se_str (sl_cons se_str (sl_cons se_str (sl_cons se_str (sl_cons se_str (sl_cons se_str (sl_cons se_str (sl_cons se_str (sl_cons se_str (sl_cons se_str (sl_cons se_str (sl_cons se_str sl_nil)))))))))))))))
 (sss_one (ss_ret (se_slice (se_call (ok__law_shuffled t) (hr.mono (by decide)) lets t.g__law_shuffled t.F__law_shuffled.kp t.b__law_shuffled (sm_i 0 (sm_v (se_op op_addA sim_add (se_var 2) (se_lst (sl_cons se_str (sl_cons se_str (sl_cons se_str sl_nil))))) sm_nil))) sp_none (sp_some (se_var 1))))))
theorem ok__law_classes (t : Tx P K mg ct ef) : FnOk P w K mg base (L2.CX P w) 1 (t.fa 16) (t.fd 16) ["e"] (spF ⟨K, ct, ef⟩ f__law_classes) :=
  def_ok (ct := ct) (ef := ef) (pr := [true]) t.F__law_classes sc__law_classes rfl fun cdv A outer s H E hr => by
  have nd := sc__law_classes.nd
  have hu := hu_of hr
  have tk : Takes (dX P w K mg base N__law_classes "_law_classes" (defScope s__law_classes) (t.fa 16) cdv A outer s H E) (dC ct ef E [true]).X := takes_of rfl rfl rfl rfl
  have lets := lets_of (c := dC ct ef E [true]) tk
  have own := own_d (P := P) (w := w) (K := K) (mg := mg) (base := base) (N := N__law_classes) (qual := "_law_classes") (sc := defScope s__law_classes) (f := t.fa 16) (cdv := cdv) (A := A) (outer := outer) (s := s) (H := H) (E := E)
  exact (sss_cons (ss_set 1 nd (by rfl) (se_lst (sl_cons (se_isX (htb_BadChoice t) t.n_isinstance t.g_BadChoice (se_var 0)) (sl_cons (se_isX (htb_BadClaim t) t.n_isinstance t.g_BadClaim (se_var 0)) (sl_cons (se_isX (htb_BadPlan t) t.n_isinstance t.g_BadPlan (se_var 0)) sl_nil)))))
 (sss_cons (ss_set 1 nd (by rfl) (se_op op_addA sim_add (se_var 1) (se_lst (sl_cons (se_isX (htb_BadValues t) t.n_isinstance t.g_BadValues (se_var 0)) (sl_cons (se_isX (htb_BadVersions t) t.n_isinstance t.g_BadVersions (se_var 0)) sl_nil)))))
 (sss_cons (ss_set 1 nd (by rfl) (se_op op_addA sim_add (se_var 1) (se_lst (sl_cons (se_isX (htb_BadWorld t) t.n_isinstance t.g_BadWorld (se_var 0)) (sl_cons (se_isX (htb_NoActor t) t.n_isinstance t.g_NoActor (se_var 0)) (sl_cons (se_isX (htb_NoReading t) t.n_isinstance t.g_NoReading (se_var 0)) sl_nil))))))
 (sss_cons (ss_set 1 nd (by rfl) (se_op op_addA sim_add (se_var 1) (se_lst (sl_cons (se_isX (htb_NoRegister t) t.n_isinstance t.g_NoRegister (se_var 0)) (sl_cons (se_isX (htb_NotTogether t) t.n_isinstance t.g_NotTogether (se_var 0)) sl_nil)))))
 (sss_cons (ss_expr (se_bmV PySem.F.plainAttrs_list PySem.F.slot_list_append PySem.F.type_list_append mt_append sim_append 1 (sl_cons (se_isX (htb_NothingToUndo t) t.n_isinstance t.g_NothingToUndo (se_var 0)) sl_nil)))
 (sss_one (ss_ret (se_len t.n_len (sl_cons (se_lc (own' := [("one", 2)]) rfl nd (sit_any (se_var 1)) (blkOk_by (N := N__law_classes) (sc := defScope s__law_classes) (by decide +kernel)) (fun s' H' C cl fp => (sg_name 2 nd (by rfl))) (fun s' H' C cl fp => (sts_one (sc_val (se_var 2)))) (fun s' H' C cl fp => (se_var 2))) sl_nil)))))))))
theorem ok__law_is_one (t : Tx P K mg ct ef) : FnOk P w K mg base (L2.CX P w) 2 (t.fa 17) (t.fd 17) ["e", "is_own"] (spF ⟨K, ct, ef⟩ f__law_is_one) :=
  def_ok (ct := ct) (ef := ef) (pr := [true, true]) t.F__law_is_one sc__law_is_one rfl fun cdv A outer s H E hr => by
  have nd := sc__law_is_one.nd
  have hu := hu_of hr
  have tk : Takes (dX P w K mg base N__law_is_one "_law_is_one" (defScope s__law_is_one) (t.fa 17) cdv A outer s H E) (dC ct ef E [true, true]).X := takes_of rfl rfl rfl rfl
  have lets := lets_of (c := dC ct ef E [true, true]) tk
  have own := own_d (P := P) (w := w) (K := K) (mg := mg) (base := base) (N := N__law_is_one) (qual := "_law_is_one") (sc := defScope s__law_is_one) (f := t.fa 17) (cdv := cdv) (A := A) (outer := outer) (s := s) (H := H) (E := E)
  exact (sss_cons (ss_set 2 nd (by rfl) (se_and (se_isX (htb_TurnError t) t.n_isinstance t.g_TurnError (se_var 0)) (se_one (se_isXB (htb_ValueError t) t.n_isinstance t.n_ValueError (by rfl) (se_var 0)))))
 (sss_one (ss_ret (se_and (se_var 1) (se_and (se_var 2) (se_one (se_cmpP (op_eqD hr.units) sim_eq (se_call (ok__law_classes t) (hr.mono (by decide)) lets t.g__law_classes t.F__law_classes.kp t.b__law_classes (sm_v (se_var 0) sm_nil)) se_int (nomark _))))))))
theorem ok__law_fielded (t : Tx P K mg ct ef) : FnOk P w K mg base (L2.CX P w) 3 (t.fa 18) (t.fd 18) ["number", "text"] (spF ⟨K, ct, ef⟩ f__law_fielded) :=
  def_ok (ct := ct) (ef := ef) (pr := [true, true]) t.F__law_fielded sc__law_fielded rfl fun cdv A outer s H E hr => by
  have nd := sc__law_fielded.nd
  have hu := hu_of hr
  have tk : Takes (dX P w K mg base N__law_fielded "_law_fielded" (defScope s__law_fielded) (t.fa 18) cdv A outer s H E) (dC ct ef E [true, true]).X := takes_of rfl rfl rfl rfl
  have lets := lets_of (c := dC ct ef E [true, true]) tk
  have own := own_d (P := P) (w := w) (K := K) (mg := mg) (base := base) (N := N__law_fielded) (qual := "_law_fielded") (sc := defScope s__law_fielded) (f := t.fa 18) (cdv := cdv) (A := A) (outer := outer) (s := s) (H := H) (E := E)
  exact (sss_cons (ss_par3 2 3 4 rfl nd (sl_cons (se_err1 (cn := 1) okv_BadWorld t.x_BadWorld.S.T t.x_BadWorld.iC t.x_BadWorld.tI (ok_BadWorld___init__ t) (hr.mono (by decide)) t.x_BadWorld.b (pass_of tk) t.g_BadWorld (se_var 0)) (sl_cons (se_err1 (cn := 8) okv_BadPlan t.x_BadPlan.S.T t.x_BadPlan.iC t.x_BadPlan.tI (ok_BadPlan___init__ t) (hr.mono (by decide)) t.x_BadPlan.b (pass_of tk) t.g_BadPlan (se_var 0)) (sl_cons (se_err1 (cn := 5) okv_BadValues t.x_BadValues.S.T t.x_BadValues.iC t.x_BadValues.tI (ok_BadValues___init__ t) (hr.mono (by decide)) t.x_BadValues.b (pass_of tk) t.g_BadValues (se_var 0)) sl_nil))) (by rfl) (by rfl) (by rfl))
 (sss_cons (ss_par3 5 6 7 rfl nd (sl_cons (se_err1 (cn := 3) okv_NoReading t.x_NoReading.S.T t.x_NoReading.iC t.x_NoReading.tI (ok_NoReading___init__ t) (hr.mono (by decide)) t.x_NoReading.b (pass_of tk) t.g_NoReading (se_var 1)) (sl_cons (se_err1 (cn := 6) okv_NoActor t.x_NoActor.S.T t.x_NoActor.iC t.x_NoActor.tI (ok_NoActor___init__ t) (hr.mono (by decide)) t.x_NoActor.b (pass_of tk) t.g_NoActor (se_var 1)) (sl_cons (se_err1 (cn := 10) okv_NoRegister t.x_NoRegister.S.T t.x_NoRegister.iC t.x_NoRegister.tI (ok_NoRegister___init__ t) (hr.mono (by decide)) t.x_NoRegister.b (pass_of tk) t.g_NoRegister (se_var 1)) sl_nil))) (by rfl) (by rfl) (by rfl))
 (sss_cons (ss_set 8 nd (by rfl) (se_lst (sl_cons (se_tup (sl_cons (se_var 2) (sl_cons (se_xv (hoc_line t) (se_var 2)) (sl_cons (se_var 0) (sl_cons (se_isX (htb_BadWorld t) t.n_isinstance t.g_BadWorld (se_var 2)) sl_nil))))) sl_nil)))
 (sss_cons (ss_expr (se_bmV PySem.F.plainAttrs_list PySem.F.slot_list_append PySem.F.type_list_append mt_append sim_append 8 (sl_cons (se_tup (sl_cons (se_var 3) (sl_cons (se_xv (hoc_line t) (se_var 3)) (sl_cons (se_var 0) (sl_cons (se_isX (htb_BadPlan t) t.n_isinstance t.g_BadPlan (se_var 3)) sl_nil))))) sl_nil)))
 (sss_cons (ss_expr (se_bmV PySem.F.plainAttrs_list PySem.F.slot_list_append PySem.F.type_list_append mt_append sim_append 8 (sl_cons (se_tup (sl_cons (se_var 4) (sl_cons (se_xv (hoc_index t) (se_var 4)) (sl_cons (se_var 0) (sl_cons (se_isX (htb_BadValues t) t.n_isinstance t.g_BadValues (se_var 4)) sl_nil))))) sl_nil)))
 (sss_cons (ss_expr (se_bmV PySem.F.plainAttrs_list PySem.F.slot_list_append PySem.F.type_list_append mt_append sim_append 8 (sl_cons (se_tup (sl_cons (se_var 5) (sl_cons (se_xv (hoc_name t) (se_var 5)) (sl_cons (se_var 1) (sl_cons (se_isX (htb_NoReading t) t.n_isinstance t.g_NoReading (se_var 5)) sl_nil))))) sl_nil)))
 (sss_cons (ss_expr (se_bmV PySem.F.plainAttrs_list PySem.F.slot_list_append PySem.F.type_list_append mt_append sim_append 8 (sl_cons (se_tup (sl_cons (se_var 6) (sl_cons (se_xv (hoc_name t) (se_var 6)) (sl_cons (se_var 1) (sl_cons (se_isX (htb_NoActor t) t.n_isinstance t.g_NoActor (se_var 6)) sl_nil))))) sl_nil)))
 (sss_one (ss_ret (se_op op_addA sim_add (se_var 8) (se_lst (sl_cons (se_tup (sl_cons (se_var 7) (sl_cons (se_xv (hoc_name t) (se_var 7)) (sl_cons (se_var 1) (sl_cons (se_isX (htb_NoRegister t) t.n_isinstance t.g_NoRegister (se_var 7)) sl_nil))))) sl_nil))))))))))))
theorem ok__law_plain_right (t : Tx P K mg ct ef) : FnOk P w K mg base (L2.CX P w) 3 (t.fa 19) (t.fd 19) [] (spF ⟨K, ct, ef⟩ f__law_plain_right) :=
  def_ok (ct := ct) (ef := ef) (pr := []) t.F__law_plain_right sc__law_plain_right rfl fun cdv A outer s H E hr => by
  have nd := sc__law_plain_right.nd
  have hu := hu_of hr
  have tk : Takes (dX P w K mg base N__law_plain_right "_law_plain_right" (defScope s__law_plain_right) (t.fa 19) cdv A outer s H E) (dC ct ef E []).X := takes_of rfl rfl rfl rfl
  have lets := lets_of (c := dC ct ef E []) tk
  have own := own_d (P := P) (w := w) (K := K) (mg := mg) (base := base) (N := N__law_plain_right) (qual := "_law_plain_right") (sc := defScope s__law_plain_right) (f := t.fa 19) (cdv := cdv) (A := A) (outer := outer) (s := s) (H := H) (E := E)
  exact (sss_cons (ss_par3 0 1 2 rfl nd (sl_cons (se_err0 (cn := 2) t.x_BadClaim.S.T t.x_BadClaim.iC t.x_BadClaim.tI (ok_BadClaim___init__ t) (hr.mono (by decide)) t.x_BadClaim.b (pass_of tk) t.g_BadClaim) (sl_cons (se_err0 (cn := 4) t.x_NotTogether.S.T t.x_NotTogether.iC t.x_NotTogether.tI (ok_NotTogether___init__ t) (hr.mono (by decide)) t.x_NotTogether.b (pass_of tk) t.g_NotTogether) (sl_cons (se_err0 (cn := 7) t.x_BadVersions.S.T t.x_BadVersions.iC t.x_BadVersions.tI (ok_BadVersions___init__ t) (hr.mono (by decide)) t.x_BadVersions.b (pass_of tk) t.g_BadVersions) sl_nil))) (by rfl) (by rfl) (by rfl))
 (sss_cons (ss_par2 3 4 rfl nd (sl_cons (se_err0 (cn := 9) t.x_BadChoice.S.T t.x_BadChoice.iC t.x_BadChoice.tI (ok_BadChoice___init__ t) (hr.mono (by decide)) t.x_BadChoice.b (pass_of tk) t.g_BadChoice) (sl_cons (se_err0 (cn := 11) t.x_NothingToUndo.S.T t.x_NothingToUndo.iC t.x_NothingToUndo.tI (ok_NothingToUndo___init__ t) (hr.mono (by decide)) t.x_NothingToUndo.b (pass_of tk) t.g_NothingToUndo) sl_nil)) (by rfl) (by rfl))
 (sss_cons (ss_set 5 nd (by rfl) (se_lst (sl_cons (se_call (ok__law_is_one t) (hr.mono (by decide)) lets t.g__law_is_one t.F__law_is_one.kp t.b__law_is_one (sm_v (se_var 0) (sm_v (se_isX (htb_BadClaim t) t.n_isinstance t.g_BadClaim (se_var 0)) sm_nil))) sl_nil)))
 (sss_cons (ss_expr (se_bmV PySem.F.plainAttrs_list PySem.F.slot_list_append PySem.F.type_list_append mt_append sim_append 5 (sl_cons (se_call (ok__law_is_one t) (hr.mono (by decide)) lets t.g__law_is_one t.F__law_is_one.kp t.b__law_is_one (sm_v (se_var 1) (sm_v (se_isX (htb_NotTogether t) t.n_isinstance t.g_NotTogether (se_var 1)) sm_nil))) sl_nil)))
 (sss_cons (ss_expr (se_bmV PySem.F.plainAttrs_list PySem.F.slot_list_append PySem.F.type_list_append mt_append sim_append 5 (sl_cons (se_call (ok__law_is_one t) (hr.mono (by decide)) lets t.g__law_is_one t.F__law_is_one.kp t.b__law_is_one (sm_v (se_var 2) (sm_v (se_isX (htb_BadVersions t) t.n_isinstance t.g_BadVersions (se_var 2)) sm_nil))) sl_nil)))
 (sss_cons (ss_expr (se_bmV PySem.F.plainAttrs_list PySem.F.slot_list_append PySem.F.type_list_append mt_append sim_append 5 (sl_cons (se_call (ok__law_is_one t) (hr.mono (by decide)) lets t.g__law_is_one t.F__law_is_one.kp t.b__law_is_one (sm_v (se_var 3) (sm_v (se_isX (htb_BadChoice t) t.n_isinstance t.g_BadChoice (se_var 3)) sm_nil))) sl_nil)))
 (sss_cons (ss_expr (se_bmV PySem.F.plainAttrs_list PySem.F.slot_list_append PySem.F.type_list_append mt_append sim_append 5 (sl_cons (se_call (ok__law_is_one t) (hr.mono (by decide)) lets t.g__law_is_one t.F__law_is_one.kp t.b__law_is_one (sm_v (se_var 4) (sm_v (se_isX (htb_NothingToUndo t) t.n_isinstance t.g_NothingToUndo (se_var 4)) sm_nil))) sl_nil)))
 (sss_one (ss_ret (se_cmpB (op_notinA hu) sim_notin se_bl (sb_var 5) (by rfl)))))))))))
theorem ok_law (t : Tx P K mg ct ef) : FnOk P w K mg base (L2.CX P w) 4 (t.fa 20) (t.fd 20) ["script"] (spF ⟨K, ct, ef⟩ f_law) :=
  def_ok (ct := ct) (ef := ef) (pr := [true]) t.F_law sc_law rfl fun cdv A outer s H E hr => by
  have nd := sc_law.nd
  have hu := hu_of hr
  have tk : Takes (dX P w K mg base N_law "law" (defScope s_law) (t.fa 20) cdv A outer s H E) (dC ct ef E [true]).X := takes_of rfl rfl rfl rfl
  have lets := lets_of (c := dC ct ef E [true]) tk
  have own := own_d (P := P) (w := w) (K := K) (mg := mg) (base := base) (N := N_law) (qual := "law") (sc := defScope s_law) (f := t.fa 20) (cdv := cdv) (A := A) (outer := outer) (s := s) (H := H) (E := E)
  exact (sss_cons (ss_set 1 nd (by rfl) (se_call (ok__law_begun_pen t) (hr.mono (by decide)) lets t.g__law_begun_pen t.F__law_begun_pen.kp t.b__law_begun_pen (sm_v (se_var 0) sm_nil)))
 (sss_cons (ss_for own rfl (f := l_law_3) (sit_range1 t.n_range (sl_cons se_int sl_nil)) (sg_name 2 nd (by rfl))
 (sss_cons (ss_set 3 nd (by rfl) (se_op op_sub sim_sub (se_call (ok__law_draw t) (hr.mono (by decide)) lets t.g__law_draw t.F__law_draw.kp t.b__law_draw (sm_i 1 (sm_v (se_op op_pow sim_pow se_int se_int) sm_nil))) (se_ix hu (se_lst (sl_cons (se_op op_pow sim_pow se_int se_int) (sl_cons se_int (sl_cons (se_call (ok__law_pick t) (hr.mono (by decide)) lets t.g__law_pick t.F__law_pick.kp t.b__law_pick (sm_i 1 (sm_v (se_lst (sl_cons se_int (sl_cons (se_op op_pow sim_pow se_int se_int) sl_nil))) sm_nil))) sl_nil)))) (se_var 2))))
 (sss_cons (ss_asg (se_call (ok__law_new_names t) (hr.mono (by decide)) lets t.g__law_new_names t.F__law_new_names.kp t.b__law_new_names (sm_i 1 (sm_v se_int sm_nil))) (sg_unl rfl (sgs_cons (sg_name 4 nd (by rfl)) (sgs_cons (sg_name 5 nd (by rfl)) sgs_nil))))
 (sss_cons (ss_par2 6 7 rfl nd (sl_cons (se_call (ok__law_fielded t) (hr.mono (by decide)) lets t.g__law_fielded t.F__law_fielded.kp t.b__law_fielded (sm_v (se_var 3) (sm_v (se_var 4) sm_nil))) (sl_cons (se_call (ok__law_fielded t) (hr.mono (by decide)) lets t.g__law_fielded t.F__law_fielded.kp t.b__law_fielded (sm_v (se_op op_addA sim_add (se_var 3) se_int) (sm_v (se_var 5) sm_nil))) sl_nil)) (by rfl) (by rfl))
 (sss_cons (ss_for own rfl (f := l_law_2) (sit_range1 t.n_range (sl_cons se_int sl_nil)) (sg_name 8 nd (by rfl))
 (sss_one (ss_for own rfl (f := l_law_1) (sit_any (se_tup (sl_cons (se_rd (sb_ix hu (sb_var 6) (sx_var 8))) (sl_cons (se_rd (sb_ix hu (sb_var 7) (sx_var 8))) sl_nil)))) (sg_tup rfl (sgs_cons (sg_name 9 nd (by rfl)) (sgs_cons (sg_name 10 nd (by rfl)) (sgs_cons (sg_name 11 nd (by rfl)) (sgs_cons (sg_name 12 nd (by rfl)) sgs_nil)))))
 (sss_one (ss_if (sw_pt (sw_or (sc_cmpP (op_ne) sim_neS (se_callB call_reprA sim_reprA (by rfl) t.n_repr (by decide +kernel) (sl_cons (se_var 10) sl_nil)) (se_callB call_reprA sim_reprA (by rfl) t.n_repr (by decide +kernel) (sl_cons (se_var 11) sl_nil)) (nomark _)) (sw_or1 (sc_not (sc_val (se_call (ok__law_is_one t) (hr.mono (by decide)) lets t.g__law_is_one t.F__law_is_one.kp t.b__law_is_one (sm_v (se_var 9) (sm_v (se_var 12) sm_nil))))))))
 (sss_one (ss_ret se_bl))
 sss_nil)))))
 (sss_cons (ss_set 13 nd (by rfl) (se_lst (sl_cons (se_xv (hoc_line t) (se_rd (sb_ix hu (sb_ix hu (sb_var 6) sx_int) sx_int))) (sl_cons (se_xv (hoc_line t) (se_rd (sb_ix hu (sb_ix hu (sb_var 6) sx_int) sx_int))) (sl_cons (se_xv (hoc_index t) (se_rd (sb_ix hu (sb_ix hu (sb_var 6) sx_int) sx_int))) sl_nil)))))
 (sss_cons (ss_set 14 nd (by rfl) (se_lst (sl_cons (se_xv (hoc_name t) (se_rd (sb_ix hu (sb_ix hu (sb_var 6) sx_int) sx_int))) (sl_cons (se_xv (hoc_name t) (se_rd (sb_ix hu (sb_ix hu (sb_var 6) sx_int) sx_int))) (sl_cons (se_xv (hoc_name t) (se_rd (sb_ix hu (sb_ix hu (sb_var 6) sx_int) sx_int))) sl_nil)))))
 (sss_cons (ss_if (sw_pt (sw_or (sc_cmpP (op_neD hr.units) sim_ne (se_var 13) (se_op op_mulA sim_mul2 (se_lst (sl_cons (se_var 3) sl_nil)) se_int) (nomark _)) (sw_or1 (sc_cmpP (op_neD hr.units) sim_ne (se_var 14) (se_op op_mulA sim_mul2 (se_lst (sl_cons (se_var 4) sl_nil)) se_int) (nomark _)))))
 (sss_one (ss_ret se_bl))
 sss_nil)
 (sss_one (ss_if (sc_not (sc_val (se_call0 (ok__law_plain_right t) (hr.mono (by decide)) lets t.g__law_plain_right t.F__law_plain_right.kp t.b__law_plain_right)))
 (sss_one (ss_ret se_bl))
 sss_nil))))))))))
 (sss_one (ss_ret se_bl))))
def h__law_begun_pen : HD := ⟨("_law_begun_pen", none), "_law_begun_pen", "_law_begun_pen", s__law_begun_pen⟩
def h__law_draw : HD := ⟨("_law_draw", none), "_law_draw", "_law_draw", s__law_draw⟩
def h__law_pick : HD := ⟨("_law_pick", none), "_law_pick", "_law_pick", s__law_pick⟩
def h__law_shuffled : HD := ⟨("_law_shuffled", none), "_law_shuffled", "_law_shuffled", s__law_shuffled⟩
def h__law_new_names : HD := ⟨("_law_new_names", none), "_law_new_names", "_law_new_names", s__law_new_names⟩
def h__law_classes : HD := ⟨("_law_classes", none), "_law_classes", "_law_classes", s__law_classes⟩
def h__law_is_one : HD := ⟨("_law_is_one", none), "_law_is_one", "_law_is_one", s__law_is_one⟩
def h__law_fielded : HD := ⟨("_law_fielded", none), "_law_fielded", "_law_fielded", s__law_fielded⟩
def h__law_plain_right : HD := ⟨("_law_plain_right", none), "_law_plain_right", "_law_plain_right", s__law_plain_right⟩
def h_law : HD := ⟨("law", none), "law", "law", s_law⟩
def h_BadWorld___init__ : HD := ⟨("BadWorld", some "__init__"), "__init__", "BadWorld.__init__", s_BadWorld___init__⟩
def h_BadPlan___init__ : HD := ⟨("BadPlan", some "__init__"), "__init__", "BadPlan.__init__", s_BadPlan___init__⟩
def h_BadValues___init__ : HD := ⟨("BadValues", some "__init__"), "__init__", "BadValues.__init__", s_BadValues___init__⟩
def h_NoReading___init__ : HD := ⟨("NoReading", some "__init__"), "__init__", "NoReading.__init__", s_NoReading___init__⟩
def h_NoActor___init__ : HD := ⟨("NoActor", some "__init__"), "__init__", "NoActor.__init__", s_NoActor___init__⟩
def h_NoRegister___init__ : HD := ⟨("NoRegister", some "__init__"), "__init__", "NoRegister.__init__", s_NoRegister___init__⟩
def h_BadClaim___init__ : HD := ⟨("BadClaim", some "__init__"), "__init__", "BadClaim.__init__", s_BadClaim___init__⟩
def h_NotTogether___init__ : HD := ⟨("NotTogether", some "__init__"), "__init__", "NotTogether.__init__", s_NotTogether___init__⟩
def h_BadVersions___init__ : HD := ⟨("BadVersions", some "__init__"), "__init__", "BadVersions.__init__", s_BadVersions___init__⟩
def h_BadChoice___init__ : HD := ⟨("BadChoice", some "__init__"), "__init__", "BadChoice.__init__", s_BadChoice___init__⟩
def h_NothingToUndo___init__ : HD := ⟨("NothingToUndo", some "__init__"), "__init__", "NothingToUndo.__init__", s_NothingToUndo___init__⟩
def hds : List HD := [h__law_begun_pen, h__law_draw, h__law_pick, h__law_shuffled, h__law_new_names, h__law_classes, h__law_is_one, h__law_fielded, h__law_plain_right, h_law, h_BadWorld___init__, h_BadPlan___init__, h_BadValues___init__, h_NoReading___init__, h_NoActor___init__, h_NoRegister___init__, h_BadClaim___init__, h_NotTogether___init__, h_BadVersions___init__, h_BadChoice___init__, h_NothingToUndo___init__]
def ctK (K : PySem.W.Frag) : Nat → Addr := fun k => match k with | 0 => He.ga K "TurnError" | 1 => He.ga K "BadWorld" | 2 => He.ga K "BadClaim" | 3 => He.ga K "NoReading" | 4 => He.ga K "NotTogether" | 5 => He.ga K "BadValues" | 6 => He.ga K "NoActor" | 7 => He.ga K "BadVersions" | 8 => He.ga K "BadPlan" | 9 => He.ga K "BadChoice" | 10 => He.ga K "NoRegister" | 11 => He.ga K "NothingToUndo" | _ => 0
def exl (K : PySem.W.Frag) : List Bool := [
  (He.Fa.glo "_law_begun_pen").ok K,
  (He.Fa.glo "_law_draw").ok K,
  (He.Fa.glo "_law_pick").ok K,
  (He.Fa.glo "_law_shuffled").ok K,
  (He.Fa.glo "_law_new_names").ok K,
  (He.Fa.glo "_law_classes").ok K,
  (He.Fa.glo "_law_is_one").ok K,
  (He.Fa.glo "_law_fielded").ok K,
  (He.Fa.glo "_law_plain_right").ok K,
  (He.Fa.glo "law").ok K,
  (He.Fa.glo "BadChoice").ok K,
  (He.Fa.glo "BadClaim").ok K,
  (He.Fa.glo "BadPlan").ok K,
  (He.Fa.glo "BadValues").ok K,
  (He.Fa.glo "BadVersions").ok K,
  (He.Fa.glo "BadWorld").ok K,
  (He.Fa.glo "NoActor").ok K,
  (He.Fa.glo "NoReading").ok K,
  (He.Fa.glo "NoRegister").ok K,
  (He.Fa.glo "NotTogether").ok K,
  (He.Fa.glo "NothingToUndo").ok K,
  (He.Fa.glo "TurnError").ok K,
  (He.Fa.free "ValueError").ok K,
  (He.Fa.free "abs").ok K,
  (He.Fa.free "int").ok K,
  (He.Fa.free "isinstance").ok K,
  (He.Fa.free "len").ok K,
  (He.Fa.free "list").ok K,
  (He.Fa.free "range").ok K,
  (He.Fa.free "repr").ok K,
  (He.Fa.free "super").ok K,
  h__law_begun_pen.okB K,
  h__law_draw.okB K,
  h__law_pick.okB K,
  h__law_shuffled.okB K,
  h__law_new_names.okB K,
  h__law_classes.okB K,
  h__law_is_one.okB K,
  h__law_fielded.okB K,
  h__law_plain_right.okB K,
  h_law.okB K,
  h_BadWorld___init__.excB PySem.Challenge.pw_digitsturn_k16_errors.main.file K (He.ga K "BadWorld"),
  (exFacts K (He.ga K "BadWorld") (He.ma K (He.ga K "BadWorld") "__init__")).all id,
  decide (PySem.W.findIn K (.ref (He.ga K "BadWorld")) "line" = some none),
  h_BadPlan___init__.excB PySem.Challenge.pw_digitsturn_k16_errors.main.file K (He.ga K "BadPlan"),
  (exFacts K (He.ga K "BadPlan") (He.ma K (He.ga K "BadPlan") "__init__")).all id,
  decide (PySem.W.findIn K (.ref (He.ga K "BadPlan")) "line" = some none),
  h_BadValues___init__.excB PySem.Challenge.pw_digitsturn_k16_errors.main.file K (He.ga K "BadValues"),
  (exFacts K (He.ga K "BadValues") (He.ma K (He.ga K "BadValues") "__init__")).all id,
  decide (PySem.W.findIn K (.ref (He.ga K "BadValues")) "index" = some none),
  h_NoReading___init__.excB PySem.Challenge.pw_digitsturn_k16_errors.main.file K (He.ga K "NoReading"),
  (exFacts K (He.ga K "NoReading") (He.ma K (He.ga K "NoReading") "__init__")).all id,
  decide (PySem.W.findIn K (.ref (He.ga K "NoReading")) "name" = some none),
  h_NoActor___init__.excB PySem.Challenge.pw_digitsturn_k16_errors.main.file K (He.ga K "NoActor"),
  (exFacts K (He.ga K "NoActor") (He.ma K (He.ga K "NoActor") "__init__")).all id,
  decide (PySem.W.findIn K (.ref (He.ga K "NoActor")) "name" = some none),
  h_NoRegister___init__.excB PySem.Challenge.pw_digitsturn_k16_errors.main.file K (He.ga K "NoRegister"),
  (exFacts K (He.ga K "NoRegister") (He.ma K (He.ga K "NoRegister") "__init__")).all id,
  decide (PySem.W.findIn K (.ref (He.ga K "NoRegister")) "name" = some none),
  h_BadClaim___init__.excB PySem.Challenge.pw_digitsturn_k16_errors.main.file K (He.ga K "BadClaim"),
  (exFacts K (He.ga K "BadClaim") (He.ma K (He.ga K "BadClaim") "__init__")).all id,
  h_NotTogether___init__.excB PySem.Challenge.pw_digitsturn_k16_errors.main.file K (He.ga K "NotTogether"),
  (exFacts K (He.ga K "NotTogether") (He.ma K (He.ga K "NotTogether") "__init__")).all id,
  h_BadVersions___init__.excB PySem.Challenge.pw_digitsturn_k16_errors.main.file K (He.ga K "BadVersions"),
  (exFacts K (He.ga K "BadVersions") (He.ma K (He.ga K "BadVersions") "__init__")).all id,
  h_BadChoice___init__.excB PySem.Challenge.pw_digitsturn_k16_errors.main.file K (He.ga K "BadChoice"),
  (exFacts K (He.ga K "BadChoice") (He.ma K (He.ga K "BadChoice") "__init__")).all id,
  h_NothingToUndo___init__.excB PySem.Challenge.pw_digitsturn_k16_errors.main.file K (He.ga K "NothingToUndo"),
  (exFacts K (He.ga K "NothingToUndo") (He.ma K (He.ga K "NothingToUndo") "__init__")).all id,
  xfB K (He.ga K "BadWorld"),
  xfB K (He.ga K "BadPlan"),
  xfB K (He.ga K "BadValues"),
  xfB K (He.ga K "NoReading"),
  xfB K (He.ga K "NoActor"),
  xfB K (He.ga K "NoRegister"),
  mkN.all fun k => decide (PySem.W.kitOne K (.ref (ctK K k)) (.ref (He.ga K "BadChoice")) = tb_BadChoice k),
  mkN.all fun k => decide (PySem.W.kitOne K (.ref (ctK K k)) (.ref (He.ga K "BadClaim")) = tb_BadClaim k),
  mkN.all fun k => decide (PySem.W.kitOne K (.ref (ctK K k)) (.ref (He.ga K "BadPlan")) = tb_BadPlan k),
  mkN.all fun k => decide (PySem.W.kitOne K (.ref (ctK K k)) (.ref (He.ga K "BadValues")) = tb_BadValues k),
  mkN.all fun k => decide (PySem.W.kitOne K (.ref (ctK K k)) (.ref (He.ga K "BadVersions")) = tb_BadVersions k),
  mkN.all fun k => decide (PySem.W.kitOne K (.ref (ctK K k)) (.ref (He.ga K "BadWorld")) = tb_BadWorld k),
  mkN.all fun k => decide (PySem.W.kitOne K (.ref (ctK K k)) (.ref (He.ga K "NoActor")) = tb_NoActor k),
  mkN.all fun k => decide (PySem.W.kitOne K (.ref (ctK K k)) (.ref (He.ga K "NoReading")) = tb_NoReading k),
  mkN.all fun k => decide (PySem.W.kitOne K (.ref (ctK K k)) (.ref (He.ga K "NoRegister")) = tb_NoRegister k),
  mkN.all fun k => decide (PySem.W.kitOne K (.ref (ctK K k)) (.ref (He.ga K "NotTogether")) = tb_NotTogether k),
  mkN.all fun k => decide (PySem.W.kitOne K (.ref (ctK K k)) (.ref (He.ga K "NothingToUndo")) = tb_NothingToUndo k),
  mkN.all fun k => decide (PySem.W.kitOne K (.ref (ctK K k)) (.ref (He.ga K "TurnError")) = tb_TurnError k),
  mkN.all fun k => decide (PySem.W.kitOne K (.ref (ctK K k)) (.type "ValueError") = tb_ValueError k)]
def exK (K : PySem.W.Frag) : Bool := (exl K).all id
theorem exat {K : PySem.W.Frag} (h : exK K = true) (i : Nat) {b : Bool} (e : (exl K)[i]? = some b) : b = true := List.all_eq_true.mp h b (List.mem_of_getElem? e)
def faK (K : PySem.W.Frag) : Nat → Addr := fun k => match k with | 11 => He.fAd K ("_law_begun_pen", none) | 12 => He.fAd K ("_law_draw", none) | 13 => He.fAd K ("_law_pick", none) | 14 => He.fAd K ("_law_shuffled", none) | 15 => He.fAd K ("_law_new_names", none) | 16 => He.fAd K ("_law_classes", none) | 17 => He.fAd K ("_law_is_one", none) | 18 => He.fAd K ("_law_fielded", none) | 19 => He.fAd K ("_law_plain_right", none) | 20 => He.fAd K ("law", none) | 0 => He.fAd K ("BadWorld", some "__init__") | 7 => He.fAd K ("BadPlan", some "__init__") | 4 => He.fAd K ("BadValues", some "__init__") | 2 => He.fAd K ("NoReading", some "__init__") | 5 => He.fAd K ("NoActor", some "__init__") | 9 => He.fAd K ("NoRegister", some "__init__") | 1 => He.fAd K ("BadClaim", some "__init__") | 3 => He.fAd K ("NotTogether", some "__init__") | 6 => He.fAd K ("BadVersions", some "__init__") | 8 => He.fAd K ("BadChoice", some "__init__") | 10 => He.fAd K ("NothingToUndo", some "__init__") | _ => 0
def efK : Nat → List Str := fun k => match k with | 1 => ["line"] | 8 => ["line"] | 5 => ["index"] | 3 => ["name"] | 6 => ["name"] | 10 => ["name"] | _ => []
theorem tx_of {K : PySem.W.Frag} {mg : Str → Option Value} {h : Heap} (X : K.In h) (G : h.Ns mainGlobals mg) (c : SaysM hds exK K) : Nonempty (Tx PySem.Challenge.pw_digitsturn_k16_errors K mg (ctK K) efK) := by
  obtain ⟨fd__law_begun_pen, F__law_begun_pen⟩ := HD.fun_ (c.at_ 0 (d := h__law_begun_pen) rfl) (exat c.flag 31 rfl)
  obtain ⟨fd__law_draw, F__law_draw⟩ := HD.fun_ (c.at_ 1 (d := h__law_draw) rfl) (exat c.flag 32 rfl)
  obtain ⟨fd__law_pick, F__law_pick⟩ := HD.fun_ (c.at_ 2 (d := h__law_pick) rfl) (exat c.flag 33 rfl)
  obtain ⟨fd__law_shuffled, F__law_shuffled⟩ := HD.fun_ (c.at_ 3 (d := h__law_shuffled) rfl) (exat c.flag 34 rfl)
  obtain ⟨fd__law_new_names, F__law_new_names⟩ := HD.fun_ (c.at_ 4 (d := h__law_new_names) rfl) (exat c.flag 35 rfl)
  obtain ⟨fd__law_classes, F__law_classes⟩ := HD.fun_ (c.at_ 5 (d := h__law_classes) rfl) (exat c.flag 36 rfl)
  obtain ⟨fd__law_is_one, F__law_is_one⟩ := HD.fun_ (c.at_ 6 (d := h__law_is_one) rfl) (exat c.flag 37 rfl)
  obtain ⟨fd__law_fielded, F__law_fielded⟩ := HD.fun_ (c.at_ 7 (d := h__law_fielded) rfl) (exat c.flag 38 rfl)
  obtain ⟨fd__law_plain_right, F__law_plain_right⟩ := HD.fun_ (c.at_ 8 (d := h__law_plain_right) rfl) (exat c.flag 39 rfl)
  obtain ⟨fd_law, F_law⟩ := HD.fun_ (c.at_ 9 (d := h_law) rfl) (exat c.flag 40 rfl)
  obtain ⟨fd_BadWorld___init__, F_BadWorld___init__⟩ := HD.funS (P := PySem.Challenge.pw_digitsturn_k16_errors) (C := He.ga K "BadWorld") (c.at_ 10 (d := h_BadWorld___init__) rfl) (exat c.flag 41 rfl)
  obtain ⟨fd_BadPlan___init__, F_BadPlan___init__⟩ := HD.funS (P := PySem.Challenge.pw_digitsturn_k16_errors) (C := He.ga K "BadPlan") (c.at_ 11 (d := h_BadPlan___init__) rfl) (exat c.flag 44 rfl)
  obtain ⟨fd_BadValues___init__, F_BadValues___init__⟩ := HD.funS (P := PySem.Challenge.pw_digitsturn_k16_errors) (C := He.ga K "BadValues") (c.at_ 12 (d := h_BadValues___init__) rfl) (exat c.flag 47 rfl)
  obtain ⟨fd_NoReading___init__, F_NoReading___init__⟩ := HD.funS (P := PySem.Challenge.pw_digitsturn_k16_errors) (C := He.ga K "NoReading") (c.at_ 13 (d := h_NoReading___init__) rfl) (exat c.flag 50 rfl)
  obtain ⟨fd_NoActor___init__, F_NoActor___init__⟩ := HD.funS (P := PySem.Challenge.pw_digitsturn_k16_errors) (C := He.ga K "NoActor") (c.at_ 14 (d := h_NoActor___init__) rfl) (exat c.flag 53 rfl)
  obtain ⟨fd_NoRegister___init__, F_NoRegister___init__⟩ := HD.funS (P := PySem.Challenge.pw_digitsturn_k16_errors) (C := He.ga K "NoRegister") (c.at_ 15 (d := h_NoRegister___init__) rfl) (exat c.flag 56 rfl)
  obtain ⟨fd_BadClaim___init__, F_BadClaim___init__⟩ := HD.funS (P := PySem.Challenge.pw_digitsturn_k16_errors) (C := He.ga K "BadClaim") (c.at_ 16 (d := h_BadClaim___init__) rfl) (exat c.flag 59 rfl)
  obtain ⟨fd_NotTogether___init__, F_NotTogether___init__⟩ := HD.funS (P := PySem.Challenge.pw_digitsturn_k16_errors) (C := He.ga K "NotTogether") (c.at_ 17 (d := h_NotTogether___init__) rfl) (exat c.flag 61 rfl)
  obtain ⟨fd_BadVersions___init__, F_BadVersions___init__⟩ := HD.funS (P := PySem.Challenge.pw_digitsturn_k16_errors) (C := He.ga K "BadVersions") (c.at_ 18 (d := h_BadVersions___init__) rfl) (exat c.flag 63 rfl)
  obtain ⟨fd_BadChoice___init__, F_BadChoice___init__⟩ := HD.funS (P := PySem.Challenge.pw_digitsturn_k16_errors) (C := He.ga K "BadChoice") (c.at_ 19 (d := h_BadChoice___init__) rfl) (exat c.flag 65 rfl)
  obtain ⟨fd_NothingToUndo___init__, F_NothingToUndo___init__⟩ := HD.funS (P := PySem.Challenge.pw_digitsturn_k16_errors) (C := He.ga K "NothingToUndo") (c.at_ 20 (d := h_NothingToUndo___init__) rfl) (exat c.flag 67 rfl)
  exact ⟨{
    fa := faK K
    fd := fun k => match k with | 11 => fd__law_begun_pen | 12 => fd__law_draw | 13 => fd__law_pick | 14 => fd__law_shuffled | 15 => fd__law_new_names | 16 => fd__law_classes | 17 => fd__law_is_one | 18 => fd__law_fielded | 19 => fd__law_plain_right | 20 => fd_law | 0 => fd_BadWorld___init__ | 7 => fd_BadPlan___init__ | 4 => fd_BadValues___init__ | 2 => fd_NoReading___init__ | 5 => fd_NoActor___init__ | 9 => fd_NoRegister___init__ | 1 => fd_BadClaim___init__ | 3 => fd_NotTogether___init__ | 6 => fd_BadVersions___init__ | 8 => fd_BadChoice___init__ | 10 => fd_NothingToUndo___init__ | _ => fd__law_begun_pen
    htop := by decide +kernel
    n_ValueError := He.free_ok X G (exat c.flag 22 rfl)
    n_abs := He.free_ok X G (exat c.flag 23 rfl)
    n_int := He.free_ok X G (exat c.flag 24 rfl)
    n_isinstance := He.free_ok X G (exat c.flag 25 rfl)
    n_len := He.free_ok X G (exat c.flag 26 rfl)
    n_list := He.free_ok X G (exat c.flag 27 rfl)
    n_range := He.free_ok X G (exat c.flag 28 rfl)
    n_repr := He.free_ok X G (exat c.flag 29 rfl)
    n_super := He.free_ok X G (exat c.flag 30 rfl)
    F__law_begun_pen := F__law_begun_pen
    b__law_begun_pen := Fun.binds F__law_begun_pen fun _ _ _ _ _ _ us hl => match us, hl with | [_], _ => rfl
    g__law_begun_pen := He.glo_ok X G (exat c.flag 0 rfl)
    p__law_begun_pen := F__law_begun_pen.kp
    F__law_draw := F__law_draw
    b__law_draw := Fun.binds F__law_draw fun _ _ _ _ _ _ us hl => match us, hl with | [_, _], _ => rfl
    g__law_draw := He.glo_ok X G (exat c.flag 1 rfl)
    p__law_draw := F__law_draw.kp
    F__law_pick := F__law_pick
    b__law_pick := Fun.binds F__law_pick fun _ _ _ _ _ _ us hl => match us, hl with | [_, _], _ => rfl
    g__law_pick := He.glo_ok X G (exat c.flag 2 rfl)
    p__law_pick := F__law_pick.kp
    F__law_shuffled := F__law_shuffled
    b__law_shuffled := Fun.binds F__law_shuffled fun _ _ _ _ _ _ us hl => match us, hl with | [_, _], _ => rfl
    g__law_shuffled := He.glo_ok X G (exat c.flag 3 rfl)
    p__law_shuffled := F__law_shuffled.kp
    F__law_new_names := F__law_new_names
    b__law_new_names := Fun.binds F__law_new_names fun _ _ _ _ _ _ us hl => match us, hl with | [_, _], _ => rfl
    g__law_new_names := He.glo_ok X G (exat c.flag 4 rfl)
    p__law_new_names := F__law_new_names.kp
    F__law_classes := F__law_classes
    b__law_classes := Fun.binds F__law_classes fun _ _ _ _ _ _ us hl => match us, hl with | [_], _ => rfl
    g__law_classes := He.glo_ok X G (exat c.flag 5 rfl)
    p__law_classes := F__law_classes.kp
    F__law_is_one := F__law_is_one
    b__law_is_one := Fun.binds F__law_is_one fun _ _ _ _ _ _ us hl => match us, hl with | [_, _], _ => rfl
    g__law_is_one := He.glo_ok X G (exat c.flag 6 rfl)
    p__law_is_one := F__law_is_one.kp
    F__law_fielded := F__law_fielded
    b__law_fielded := Fun.binds F__law_fielded fun _ _ _ _ _ _ us hl => match us, hl with | [_, _], _ => rfl
    g__law_fielded := He.glo_ok X G (exat c.flag 7 rfl)
    p__law_fielded := F__law_fielded.kp
    F__law_plain_right := F__law_plain_right
    b__law_plain_right := Fun.binds F__law_plain_right fun _ _ _ _ _ _ us hl => match us, hl with | [], _ => rfl
    g__law_plain_right := He.glo_ok X G (exat c.flag 8 rfl)
    p__law_plain_right := F__law_plain_right.kp
    F_law := F_law
    b_law := Fun.binds F_law fun _ _ _ _ _ _ us hl => match us, hl with | [_], _ => rfl
    g_law := He.glo_ok X G (exat c.flag 9 rfl)
    p_law := F_law.kp
    x_BadWorld := exf_ok (exat c.flag 42 rfl) F_BadWorld___init__ (FunS.binds F_BadWorld___init__ fun _ _ _ _ _ us hl => match us, hl with | [_, _], _ => rfl)
    x_BadPlan := exf_ok (exat c.flag 45 rfl) F_BadPlan___init__ (FunS.binds F_BadPlan___init__ fun _ _ _ _ _ us hl => match us, hl with | [_, _], _ => rfl)
    x_BadValues := exf_ok (exat c.flag 48 rfl) F_BadValues___init__ (FunS.binds F_BadValues___init__ fun _ _ _ _ _ us hl => match us, hl with | [_, _], _ => rfl)
    x_NoReading := exf_ok (exat c.flag 51 rfl) F_NoReading___init__ (FunS.binds F_NoReading___init__ fun _ _ _ _ _ us hl => match us, hl with | [_, _], _ => rfl)
    x_NoActor := exf_ok (exat c.flag 54 rfl) F_NoActor___init__ (FunS.binds F_NoActor___init__ fun _ _ _ _ _ us hl => match us, hl with | [_, _], _ => rfl)
    x_NoRegister := exf_ok (exat c.flag 57 rfl) F_NoRegister___init__ (FunS.binds F_NoRegister___init__ fun _ _ _ _ _ us hl => match us, hl with | [_, _], _ => rfl)
    x_BadClaim := exf_ok (exat c.flag 60 rfl) F_BadClaim___init__ (FunS.binds F_BadClaim___init__ fun _ _ _ _ _ us hl => match us, hl with | [_], _ => rfl)
    x_NotTogether := exf_ok (exat c.flag 62 rfl) F_NotTogether___init__ (FunS.binds F_NotTogether___init__ fun _ _ _ _ _ us hl => match us, hl with | [_], _ => rfl)
    x_BadVersions := exf_ok (exat c.flag 64 rfl) F_BadVersions___init__ (FunS.binds F_BadVersions___init__ fun _ _ _ _ _ us hl => match us, hl with | [_], _ => rfl)
    x_BadChoice := exf_ok (exat c.flag 66 rfl) F_BadChoice___init__ (FunS.binds F_BadChoice___init__ fun _ _ _ _ _ us hl => match us, hl with | [_], _ => rfl)
    x_NothingToUndo := exf_ok (exat c.flag 68 rfl) F_NothingToUndo___init__ (FunS.binds F_NothingToUndo___init__ fun _ _ _ _ _ us hl => match us, hl with | [_], _ => rfl)
    xn_BadWorld := of_decide_eq_true (exat c.flag 43 rfl)
    ef_BadWorld := rfl
    xn_BadPlan := of_decide_eq_true (exat c.flag 46 rfl)
    ef_BadPlan := rfl
    xn_BadValues := of_decide_eq_true (exat c.flag 49 rfl)
    ef_BadValues := rfl
    xn_NoReading := of_decide_eq_true (exat c.flag 52 rfl)
    ef_NoReading := rfl
    xn_NoActor := of_decide_eq_true (exat c.flag 55 rfl)
    ef_NoActor := rfl
    xn_NoRegister := of_decide_eq_true (exat c.flag 58 rfl)
    ef_NoRegister := rfl
    g_BadChoice := He.glo_ok X G (exat c.flag 10 rfl)
    g_BadClaim := He.glo_ok X G (exat c.flag 11 rfl)
    g_BadPlan := He.glo_ok X G (exat c.flag 12 rfl)
    g_BadValues := He.glo_ok X G (exat c.flag 13 rfl)
    g_BadVersions := He.glo_ok X G (exat c.flag 14 rfl)
    g_BadWorld := He.glo_ok X G (exat c.flag 15 rfl)
    g_NoActor := He.glo_ok X G (exat c.flag 16 rfl)
    g_NoReading := He.glo_ok X G (exat c.flag 17 rfl)
    g_NoRegister := He.glo_ok X G (exat c.flag 18 rfl)
    g_NotTogether := He.glo_ok X G (exat c.flag 19 rfl)
    g_NothingToUndo := He.glo_ok X G (exat c.flag 20 rfl)
    g_TurnError := He.glo_ok X G (exat c.flag 21 rfl)
    xf_BadWorld := xfB_ok (exat c.flag 69 rfl)
    xf_BadPlan := xfB_ok (exat c.flag 70 rfl)
    xf_BadValues := xfB_ok (exat c.flag 71 rfl)
    xf_NoReading := xfB_ok (exat c.flag 72 rfl)
    xf_NoActor := xfB_ok (exat c.flag 73 rfl)
    xf_NoRegister := xfB_ok (exat c.flag 74 rfl)
    xE := by
      intro k hk
      simp only [mkN, List.mem_cons, List.not_mem_nil, or_false] at hk
      rcases hk with rfl | rfl | rfl | rfl | rfl | rfl | rfl | rfl | rfl | rfl | rfl
      · exact excC_of (exat c.flag 42 rfl)
      · exact excC_of (exat c.flag 45 rfl)
      · exact excC_of (exat c.flag 48 rfl)
      · exact excC_of (exat c.flag 51 rfl)
      · exact excC_of (exat c.flag 54 rfl)
      · exact excC_of (exat c.flag 57 rfl)
      · exact excC_of (exat c.flag 60 rfl)
      · exact excC_of (exat c.flag 62 rfl)
      · exact excC_of (exat c.flag 64 rfl)
      · exact excC_of (exat c.flag 66 rfl)
      · exact excC_of (exat c.flag 68 rfl)
    kx_BadChoice := kx_of (exat c.flag 75 rfl) tn_BadChoice
    kx_BadClaim := kx_of (exat c.flag 76 rfl) tn_BadClaim
    kx_BadPlan := kx_of (exat c.flag 77 rfl) tn_BadPlan
    kx_BadValues := kx_of (exat c.flag 78 rfl) tn_BadValues
    kx_BadVersions := kx_of (exat c.flag 79 rfl) tn_BadVersions
    kx_BadWorld := kx_of (exat c.flag 80 rfl) tn_BadWorld
    kx_NoActor := kx_of (exat c.flag 81 rfl) tn_NoActor
    kx_NoReading := kx_of (exat c.flag 82 rfl) tn_NoReading
    kx_NoRegister := kx_of (exat c.flag 83 rfl) tn_NoRegister
    kx_NotTogether := kx_of (exat c.flag 84 rfl) tn_NotTogether
    kx_NothingToUndo := kx_of (exat c.flag 85 rfl) tn_NothingToUndo
    kx_TurnError := kx_of (exat c.flag 86 rfl) tn_TurnError
    kx_ValueError := kx_of (exat c.flag 87 rfl) tn_ValueError
  }⟩
abbrev RR : PySem.W.OpenRow := PySem.W.OpenLaw.row PySem.Challenge.rw_digitsturn_k16_errors
abbrev hkM : PySem.W.Hook := hookM 5 hds exK
def obF (s : PySem.W.SharedT) : AlM := obsMG 5 hds exK (HandSHeadRun.getT s)
theorem obF_eq (s : PySem.W.SharedT) : obF s = hkM.obs s.abs := obsMG_eq (HandSHeadRun.getT_eq s)
def loose : List Str := ["TurnError", "BadWorld", "BadClaim", "NoReading", "NotTogether", "BadValues", "NoActor", "BadVersions", "BadPlan", "BadChoice", "NoRegister", "NothingToUndo", "_law_begun_pen", "_law_draw", "_law_pick", "_law_shuffled", "_law_new_names", "_law_classes", "_law_is_one", "_law_fielded", "_law_plain_right"]
set_option maxHeartbeats 0 in
theorem runF_ (w : World) : HandSHeadRun.RunEq RR (PySem.W.view RR.prog [23]) hkM obF 6000 loose w := by
  intro os
  kernel_rfl
end TrLaw
end

section
set_option Elab.async false
set_option linter.all false
set_option autoImplicit false
set_option maxRecDepth 100000
namespace Tr
open PySem PySem.Spec PyProof.Rows L2
def penK : List Key := [.inr "cells", .inr "turn", .inr "left"]
/-- the pen -/
def penT (m : Bool) (cells : List Int) (turn left : Int) : T := .nd (.dct true penK) [.nd (.lst m) (cells.map T.int), .int turn, .int left]
theorem pos_left (xs : List T) : posIx (.nd (.dct true penK) xs) (.str "left") = some 2 := by
  show (some (Sum.inr "left" : Key)).bind (fun k => kpos k penK) = _
  decide +kernel
theorem pos_turn (xs : List T) : posIx (.nd (.dct true penK) xs) (.str "turn") = some 1 := by
  show (some (Sum.inr "turn" : Key)).bind (fun k => kpos k penK) = _
  decide +kernel
theorem pos_cells (xs : List T) : posIx (.nd (.dct true penK) xs) (.str "cells") = some 0 := by
  show (some (Sum.inr "cells" : Key)).bind (fun k => kpos k penK) = _
  decide +kernel
theorem kput_at {k : Key} {j : Nat} {v : T} {xs : List T} (h : kpos k penK = some j) : kput k v penK xs = (penK, xs.set j v) := by
  unfold kput
  rw [h]
theorem set_left (t a b c : T) : setIx (.str "left") t (.nd (.dct true penK) [a, b, c]) = some (.nd (.dct true penK) [a, b, t]) := by
  show (some (Sum.inr "left" : Key)).bind (fun k => if penK.length < sizeLine then some (T.nd (.dct true (kput k t penK [a, b, c]).1) (kput k t penK [a, b, c]).2) else none) = _
  rw [Option.bind_some, kput_at (j := 2) (by decide +kernel), if_pos (by decide +kernel)]
  rfl
theorem set_turn (t a b c : T) : setIx (.str "turn") t (.nd (.dct true penK) [a, b, c]) = some (.nd (.dct true penK) [a, t, c]) := by
  show (some (Sum.inr "turn" : Key)).bind (fun k => if penK.length < sizeLine then some (T.nd (.dct true (kput k t penK [a, b, c]).1) (kput k t penK [a, b, c]).2) else none) = _
  rw [Option.bind_some, kput_at (j := 1) (by decide +kernel), if_pos (by decide +kernel)]
  rfl
theorem len_ints (m : Bool) (ns : List Int) : gLen (.nd (.lst m) (ns.map T.int)) = some (.int (ns.length : Nat)) := by
  show some (T.int ((ns.map T.int).length : Nat)) = _
  rw [List.length_map]
theorem fz_lst' (m : Bool) (ns : List Int) : T.fz (.nd (.lst m) (ns.map T.int)) = .nd (.lst false) (ns.map T.int) := by
  cases m with
  | true => show T.nd (.lst false) (T.fzL (ns.map T.int)) = _; rw [fzL_ints]
  | false => rfl
theorem bd_mod {a b : Int} (h : 0 < b) : 0 ≤ a % b ∧ a % b < b := ⟨Int.emod_nonneg _ (by omega), Int.emod_lt_of_pos _ h⟩
end Tr
namespace TrLaw
open Tr PySem PySem.Spec PyProof.Rows L2
theorem draw_ev (p : T) (span : T) : f__law_draw [p, span] = outK [true, true] (b__law_draw [some p, some span, none, none, none, none]) := run_ev rfl rfl
theorem draw_left (m : Bool) (cells : List Int) (turn left span : Int) (h : 0 < left) (hs : 0 < span) (h2 : span.natAbs.log2 < 9000) :
    f__law_draw [penT m cells turn left, .int span] = .ret (.int (left % span)) [penT m cells turn (left / span), .int span] := by
  rw [draw_ev]
  unfold b__law_draw penT
  simp -implicitDefEqProofs only [ev_ok, ev_exc, ev_ret, ev_lift, ev_pl, ev_plK, ev_rd, ev_rdPl, ev_rdK, ev_ix, ev_ixK, ev_deeper, ev_dpK, ev_f2, ev_f2K1, ev_f2K2, ev_f1, ev_f1K, ev_cC, ev_cCK1, ev_cCK2, ev_vC, ev_tst, ev_tstK, ev_and, ev_andT, ev_andF, ev_or, ev_orT, ev_orF, ev_not, ev_notK, ev_if, ev_ifT, ev_ifF, ev_nil, ev_cons, ev_consK1, ev_consK2, ev_callL, ev_callLK, ev_itL, ev_itLK, ev_it, ev_itK, ev_anil, ev_av, ev_avK1, ev_avK2, ev_ai, ev_aiJ, ev_aiK, ev_call, ev_callAR, ev_callK, ev_coR, ev_coE, ga_nil, ga_v, ga_i, ga_iK, ga_K, sc_nil, sc_v, sc_i, ev_seq, ev_seqN, ev_seqR, ev_seqE, ev_next, sb_ok, sb_exc, ev_sb, ev_sret, ev_retK, ev_expr, ev_nxK, ev_sif, ev_sifT, ev_sifF, ev_gu, ev_asg, ev_asgK, ev_set, ev_par, ev_parK, ev_gcK, ev_gc, ev_gn, ev_gtup, ev_gix, ev_gixK, ev_chg, ev_chK, ev_mv, ev_mvK, ev_lenB, ev_lenBK, ev_lbK, ev_emp, ev_empK, ev_epK, ev_sl, ev_slK0, ev_slK1, ev_slK2, ev_pI, ev_pIK, ev_pnil, ev_outN, ev_outR, ev_outE, ou_nil, ou_cons, xC, xVar, xBin, xNeg, atomV, get_nil, get_one, set_nil, set_one, pown_nil, pown_one, Option.isSome_some, Bool.and_self, Bool.and_true, Bool.true_and, Option.getD_some, Option.getD_none, List.getElem?_cons_zero, List.getElem?_cons_succ, List.set_cons_zero, List.set_cons_succ, List.nil_append, List.length_cons, List.length_nil, gNe, Option.map_some, if_true, if_false, Bool.not_true, Bool.not_false, Option.bind_some, List.isEmpty_nil, T.fz, NK.m, NK.fz, ev_lend, ev_lendB, ev_lendBK, ev_lendE, ev_lendBE, fzE_nil, fzE_none, fzE_some, ev_bNv, ev_bNvK, pos_left, gGt, h, decide_true, callLK, gInt, gMod, hs, gDiv, h2, and_self, set_left]
/-- the mixing -/
def mixS : FS := (sSeq (sAsg (f2 gMul (f2 gMod (fCallL gInt (fCons (fRd (fPl 4)) fNil)) (M.ret (.int 4294967087))) (M.ret (.int 48611))) (gSet 5))
 (sSeq (sAsg (f2 gMod (fCallL gInt (fCons (f2 gAdd (f2 gAdd (fRd (fPl 5)) (f2 gMul (fRd (fPl 3)) (f2 gAdd (f2 gMul (fRd (fPl 3)) (M.ret (.int 27919))) (M.ret (.int 10601))))) (M.ret (.int 41))) fNil)) (M.ret (.int 4294967029))) (gSet 5))
 (sSeq (sAsg (f2 gMod (fCallL gInt (fCons (f2 gMul (fRd (fPl 5)) (f2 gAdd (fRd (fPl 5)) (M.ret (.int 75013)))) fNil)) (M.ret (.int 4294966997))) (gSet 5))
 (sSeq (sAsg (f2 gMod (fCallL gInt (fCons (f2 gAdd (f2 gAdd (f2 gMul (fRd (fPl 5)) (fRd (fPl 5))) (f2 gMul (M.ret (.int 30427)) (fRd (fPl 5)))) (f2 gMul (M.ret (.int 19)) (fRd (fPl 3)))) fNil)) (M.ret (.int 4294966981))) (gSet 5))
 (sRet (f2 gMod (fCallL gInt (fCons (f2 gDiv (f2 gMod (fCallL gInt (fCons (f2 gMul (fRd (fPl 5)) (f2 gAdd (fRd (fPl 5)) (M.ret (.int 58111)))) fNil)) (M.ret (.int 4294966943))) (M.ret (.int 64))) fNil)) (fRd (fPl 1))))))))
theorem mulL {x y : Int} (h0 : 0 ≤ x) (h1 : x < 18446744073709551616) : gMul (.int x) (.int y) = some (.int (x * y)) := by
  show (if _ then _ else _) = _
  rw [if_pos (.inl ⟨by omega, by omega⟩)]
theorem mod5 {e : M T} {v q : Int} {rest : FS} {ρ : Tr.Env} (h : e ρ = .ok (.int v) ρ) (hq : 0 < q) : sSeq (sAsg (f2 gMod (fCallL gInt (fCons e fNil)) (M.ret (.int q))) (gSet 5)) rest ρ = rest (ρ.set 5 (some (.int (v % q)))) := by
  simp -implicitDefEqProofs only [ev_ok, ev_exc, ev_ret, ev_lift, ev_pl, ev_plK, ev_rd, ev_rdPl, ev_rdK, ev_ix, ev_ixK, ev_deeper, ev_dpK, ev_f2, ev_f2K1, ev_f2K2, ev_f1, ev_f1K, ev_cC, ev_cCK1, ev_cCK2, ev_vC, ev_tst, ev_tstK, ev_and, ev_andT, ev_andF, ev_or, ev_orT, ev_orF, ev_not, ev_notK, ev_if, ev_ifT, ev_ifF, ev_nil, ev_cons, ev_consK1, ev_consK2, ev_callL, ev_callLK, ev_itL, ev_itLK, ev_it, ev_itK, ev_anil, ev_av, ev_avK1, ev_avK2, ev_ai, ev_aiJ, ev_aiK, ev_call, ev_callAR, ev_callK, ev_coR, ev_coE, ga_nil, ga_v, ga_i, ga_iK, ga_K, sc_nil, sc_v, sc_i, ev_seq, ev_seqN, ev_seqR, ev_seqE, ev_next, sb_ok, sb_exc, ev_sb, ev_sret, ev_retK, ev_expr, ev_nxK, ev_sif, ev_sifT, ev_sifF, ev_gu, ev_asg, ev_asgK, ev_set, ev_par, ev_parK, ev_gcK, ev_gc, ev_gn, ev_gtup, ev_gix, ev_gixK, ev_chg, ev_chK, ev_mv, ev_mvK, ev_lenB, ev_lenBK, ev_lbK, ev_emp, ev_empK, ev_epK, ev_sl, ev_slK0, ev_slK1, ev_slK2, ev_pI, ev_pIK, ev_pnil, ev_outN, ev_outR, ev_outE, ou_nil, ou_cons, xC, xVar, xBin, xNeg, atomV, get_nil, get_one, set_nil, set_one, pown_nil, pown_one, Option.isSome_some, Bool.and_self, Bool.and_true, Bool.true_and, Option.getD_some, Option.getD_none, List.getElem?_cons_zero, List.getElem?_cons_succ, List.set_cons_zero, List.set_cons_succ, List.nil_append, List.length_cons, List.length_nil, gNe, Option.map_some, if_true, if_false, Bool.not_true, Bool.not_false, Option.bind_some, List.isEmpty_nil, T.fz, NK.m, NK.fz, ev_lend, ev_lendB, ev_lendBK, ev_lendE, ev_lendBE, fzE_nil, fzE_none, fzE_some, ev_bNv, ev_bNvK, h, gInt, gMod, hq]
theorem mix_ok (p : T) (x2 x5 : Option T) (span turn cell : Int) (ht : 0 ≤ turn) (ht2 : turn < 18446744073709551616) (hs : 0 < span) :
    ∃ d x, mixS [some p, some (.int span), x2, some (.int turn), some (.int cell), x5] = .ret (.int d) [some p, some (.int span), x2, some (.int turn), some (.int cell), x] ∧ 0 ≤ d ∧ d < span := by
  unfold mixS
  have b1 := bd_mod (a := cell) (b := 4294967087) (by decide)
  have e1 : (sAsg (f2 gMul (f2 gMod (fCallL gInt (fCons (fRd (fPl 4)) fNil)) (M.ret (.int 4294967087))) (M.ret (.int 48611))) (gSet 5)) [some p, some (.int span), x2, some (.int turn), some (.int cell), x5] = .nx [some p, some (.int span), x2, some (.int turn), some (.int cell), some (.int (cell % 4294967087 * 48611))] := by
    simp -implicitDefEqProofs only [ev_ok, ev_exc, ev_ret, ev_lift, ev_pl, ev_plK, ev_rd, ev_rdPl, ev_rdK, ev_ix, ev_ixK, ev_deeper, ev_dpK, ev_f2, ev_f2K1, ev_f2K2, ev_f1, ev_f1K, ev_cC, ev_cCK1, ev_cCK2, ev_vC, ev_tst, ev_tstK, ev_and, ev_andT, ev_andF, ev_or, ev_orT, ev_orF, ev_not, ev_notK, ev_if, ev_ifT, ev_ifF, ev_nil, ev_cons, ev_consK1, ev_consK2, ev_callL, ev_callLK, ev_itL, ev_itLK, ev_it, ev_itK, ev_anil, ev_av, ev_avK1, ev_avK2, ev_ai, ev_aiJ, ev_aiK, ev_call, ev_callAR, ev_callK, ev_coR, ev_coE, ga_nil, ga_v, ga_i, ga_iK, ga_K, sc_nil, sc_v, sc_i, ev_seq, ev_seqN, ev_seqR, ev_seqE, ev_next, sb_ok, sb_exc, ev_sb, ev_sret, ev_retK, ev_expr, ev_nxK, ev_sif, ev_sifT, ev_sifF, ev_gu, ev_asg, ev_asgK, ev_set, ev_par, ev_parK, ev_gcK, ev_gc, ev_gn, ev_gtup, ev_gix, ev_gixK, ev_chg, ev_chK, ev_mv, ev_mvK, ev_lenB, ev_lenBK, ev_lbK, ev_emp, ev_empK, ev_epK, ev_sl, ev_slK0, ev_slK1, ev_slK2, ev_pI, ev_pIK, ev_pnil, ev_outN, ev_outR, ev_outE, ou_nil, ou_cons, xC, xVar, xBin, xNeg, atomV, get_nil, get_one, set_nil, set_one, pown_nil, pown_one, Option.isSome_some, Bool.and_self, Bool.and_true, Bool.true_and, Option.getD_some, Option.getD_none, List.getElem?_cons_zero, List.getElem?_cons_succ, List.set_cons_zero, List.set_cons_succ, List.nil_append, List.length_cons, List.length_nil, gNe, Option.map_some, if_true, if_false, Bool.not_true, Bool.not_false, Option.bind_some, List.isEmpty_nil, T.fz, NK.m, NK.fz, ev_lend, ev_lendB, ev_lendBK, ev_lendE, ev_lendBE, fzE_nil, fzE_none, fzE_some, ev_bNv, ev_bNvK, gInt, gMod, show (0 : Int) < 4294967087 by decide, mulL b1.1 (show cell % 4294967087 < 18446744073709551616 by omega)]
  rw [ev_seq, e1, ev_seqN]
  generalize cell % 4294967087 * 48611 = m1
  rw [mod5 (v := m1 + turn * (turn * 27919 + 10601) + 41) (by
    have hm : gMul (.int turn) (.int 27919) = some (.int (turn * 27919)) := mulL ht ht2
    have hm2 : gMul (.int turn) (.int (turn * 27919 + 10601)) = some (.int (turn * (turn * 27919 + 10601))) := mulL ht ht2
    simp -implicitDefEqProofs only [ev_ok, ev_exc, ev_ret, ev_lift, ev_pl, ev_plK, ev_rd, ev_rdPl, ev_rdK, ev_ix, ev_ixK, ev_deeper, ev_dpK, ev_f2, ev_f2K1, ev_f2K2, ev_f1, ev_f1K, ev_cC, ev_cCK1, ev_cCK2, ev_vC, ev_tst, ev_tstK, ev_and, ev_andT, ev_andF, ev_or, ev_orT, ev_orF, ev_not, ev_notK, ev_if, ev_ifT, ev_ifF, ev_nil, ev_cons, ev_consK1, ev_consK2, ev_callL, ev_callLK, ev_itL, ev_itLK, ev_it, ev_itK, ev_anil, ev_av, ev_avK1, ev_avK2, ev_ai, ev_aiJ, ev_aiK, ev_call, ev_callAR, ev_callK, ev_coR, ev_coE, ga_nil, ga_v, ga_i, ga_iK, ga_K, sc_nil, sc_v, sc_i, ev_seq, ev_seqN, ev_seqR, ev_seqE, ev_next, sb_ok, sb_exc, ev_sb, ev_sret, ev_retK, ev_expr, ev_nxK, ev_sif, ev_sifT, ev_sifF, ev_gu, ev_asg, ev_asgK, ev_set, ev_par, ev_parK, ev_gcK, ev_gc, ev_gn, ev_gtup, ev_gix, ev_gixK, ev_chg, ev_chK, ev_mv, ev_mvK, ev_lenB, ev_lenBK, ev_lbK, ev_emp, ev_empK, ev_epK, ev_sl, ev_slK0, ev_slK1, ev_slK2, ev_pI, ev_pIK, ev_pnil, ev_outN, ev_outR, ev_outE, ou_nil, ou_cons, xC, xVar, xBin, xNeg, atomV, get_nil, get_one, set_nil, set_one, pown_nil, pown_one, Option.isSome_some, Bool.and_self, Bool.and_true, Bool.true_and, Option.getD_some, Option.getD_none, List.getElem?_cons_zero, List.getElem?_cons_succ, List.set_cons_zero, List.set_cons_succ, List.nil_append, List.length_cons, List.length_nil, gNe, Option.map_some, if_true, if_false, Bool.not_true, Bool.not_false, Option.bind_some, List.isEmpty_nil, T.fz, NK.m, NK.fz, ev_lend, ev_lendB, ev_lendBK, ev_lendE, ev_lendBE, fzE_nil, fzE_none, fzE_some, ev_bNv, ev_bNvK, hm, hm2, gAdd]) (by decide)]
  have b2 := bd_mod (a := m1 + turn * (turn * 27919 + 10601) + 41) (b := 4294967029) (by decide)
  revert b2
  generalize (m1 + turn * (turn * 27919 + 10601) + 41) % 4294967029 = m2
  intro b2
  simp only [List.set_cons_zero, List.set_cons_succ]
  rw [mod5 (v := m2 * (m2 + 75013)) (by
    have hm : gMul (.int m2) (.int (m2 + 75013)) = some (.int (m2 * (m2 + 75013))) := mulL b2.1 (by omega)
    simp -implicitDefEqProofs only [ev_ok, ev_exc, ev_ret, ev_lift, ev_pl, ev_plK, ev_rd, ev_rdPl, ev_rdK, ev_ix, ev_ixK, ev_deeper, ev_dpK, ev_f2, ev_f2K1, ev_f2K2, ev_f1, ev_f1K, ev_cC, ev_cCK1, ev_cCK2, ev_vC, ev_tst, ev_tstK, ev_and, ev_andT, ev_andF, ev_or, ev_orT, ev_orF, ev_not, ev_notK, ev_if, ev_ifT, ev_ifF, ev_nil, ev_cons, ev_consK1, ev_consK2, ev_callL, ev_callLK, ev_itL, ev_itLK, ev_it, ev_itK, ev_anil, ev_av, ev_avK1, ev_avK2, ev_ai, ev_aiJ, ev_aiK, ev_call, ev_callAR, ev_callK, ev_coR, ev_coE, ga_nil, ga_v, ga_i, ga_iK, ga_K, sc_nil, sc_v, sc_i, ev_seq, ev_seqN, ev_seqR, ev_seqE, ev_next, sb_ok, sb_exc, ev_sb, ev_sret, ev_retK, ev_expr, ev_nxK, ev_sif, ev_sifT, ev_sifF, ev_gu, ev_asg, ev_asgK, ev_set, ev_par, ev_parK, ev_gcK, ev_gc, ev_gn, ev_gtup, ev_gix, ev_gixK, ev_chg, ev_chK, ev_mv, ev_mvK, ev_lenB, ev_lenBK, ev_lbK, ev_emp, ev_empK, ev_epK, ev_sl, ev_slK0, ev_slK1, ev_slK2, ev_pI, ev_pIK, ev_pnil, ev_outN, ev_outR, ev_outE, ou_nil, ou_cons, xC, xVar, xBin, xNeg, atomV, get_nil, get_one, set_nil, set_one, pown_nil, pown_one, Option.isSome_some, Bool.and_self, Bool.and_true, Bool.true_and, Option.getD_some, Option.getD_none, List.getElem?_cons_zero, List.getElem?_cons_succ, List.set_cons_zero, List.set_cons_succ, List.nil_append, List.length_cons, List.length_nil, gNe, Option.map_some, if_true, if_false, Bool.not_true, Bool.not_false, Option.bind_some, List.isEmpty_nil, T.fz, NK.m, NK.fz, ev_lend, ev_lendB, ev_lendBK, ev_lendE, ev_lendBE, fzE_nil, fzE_none, fzE_some, ev_bNv, ev_bNvK, hm, gAdd]) (by decide)]
  have b3 := bd_mod (a := m2 * (m2 + 75013)) (b := 4294966997) (by decide)
  revert b3
  generalize (m2 * (m2 + 75013)) % 4294966997 = m3
  intro b3
  simp only [List.set_cons_zero, List.set_cons_succ]
  rw [mod5 (v := m3 * m3 + 30427 * m3 + 19 * turn) (by
    have hm : gMul (.int m3) (.int m3) = some (.int (m3 * m3)) := mulL b3.1 (by omega)
    have hm2 : gMul (.int 30427) (.int m3) = some (.int (30427 * m3)) := mulL (by decide) (by decide)
    have hm3 : gMul (.int 19) (.int turn) = some (.int (19 * turn)) := mulL (by decide) (by decide)
    simp -implicitDefEqProofs only [ev_ok, ev_exc, ev_ret, ev_lift, ev_pl, ev_plK, ev_rd, ev_rdPl, ev_rdK, ev_ix, ev_ixK, ev_deeper, ev_dpK, ev_f2, ev_f2K1, ev_f2K2, ev_f1, ev_f1K, ev_cC, ev_cCK1, ev_cCK2, ev_vC, ev_tst, ev_tstK, ev_and, ev_andT, ev_andF, ev_or, ev_orT, ev_orF, ev_not, ev_notK, ev_if, ev_ifT, ev_ifF, ev_nil, ev_cons, ev_consK1, ev_consK2, ev_callL, ev_callLK, ev_itL, ev_itLK, ev_it, ev_itK, ev_anil, ev_av, ev_avK1, ev_avK2, ev_ai, ev_aiJ, ev_aiK, ev_call, ev_callAR, ev_callK, ev_coR, ev_coE, ga_nil, ga_v, ga_i, ga_iK, ga_K, sc_nil, sc_v, sc_i, ev_seq, ev_seqN, ev_seqR, ev_seqE, ev_next, sb_ok, sb_exc, ev_sb, ev_sret, ev_retK, ev_expr, ev_nxK, ev_sif, ev_sifT, ev_sifF, ev_gu, ev_asg, ev_asgK, ev_set, ev_par, ev_parK, ev_gcK, ev_gc, ev_gn, ev_gtup, ev_gix, ev_gixK, ev_chg, ev_chK, ev_mv, ev_mvK, ev_lenB, ev_lenBK, ev_lbK, ev_emp, ev_empK, ev_epK, ev_sl, ev_slK0, ev_slK1, ev_slK2, ev_pI, ev_pIK, ev_pnil, ev_outN, ev_outR, ev_outE, ou_nil, ou_cons, xC, xVar, xBin, xNeg, atomV, get_nil, get_one, set_nil, set_one, pown_nil, pown_one, Option.isSome_some, Bool.and_self, Bool.and_true, Bool.true_and, Option.getD_some, Option.getD_none, List.getElem?_cons_zero, List.getElem?_cons_succ, List.set_cons_zero, List.set_cons_succ, List.nil_append, List.length_cons, List.length_nil, gNe, Option.map_some, if_true, if_false, Bool.not_true, Bool.not_false, Option.bind_some, List.isEmpty_nil, T.fz, NK.m, NK.fz, ev_lend, ev_lendB, ev_lendBK, ev_lendE, ev_lendBE, fzE_nil, fzE_none, fzE_some, ev_bNv, ev_bNvK, hm, hm2, hm3, gAdd]) (by decide)]
  have b4 := bd_mod (a := m3 * m3 + 30427 * m3 + 19 * turn) (b := 4294966981) (by decide)
  revert b4
  generalize (m3 * m3 + 30427 * m3 + 19 * turn) % 4294966981 = m4
  intro b4
  simp only [List.set_cons_zero, List.set_cons_succ]
  have hm : gMul (.int m4) (.int (m4 + 58111)) = some (.int (m4 * (m4 + 58111))) := mulL b4.1 (by omega)
  have hd : gDiv (.int (m4 * (m4 + 58111) % 4294966943)) (.int 64) = some (.int (m4 * (m4 + 58111) % 4294966943 / 64)) := by
    unfold gDiv
    dsimp only
    rw [if_pos (by decide)]
  refine ⟨_, some (.int m4), ?_, (bd_mod (a := m4 * (m4 + 58111) % 4294966943 / 64) hs).1, (bd_mod (a := m4 * (m4 + 58111) % 4294966943 / 64) hs).2⟩
  simp -implicitDefEqProofs only [ev_ok, ev_exc, ev_ret, ev_lift, ev_pl, ev_plK, ev_rd, ev_rdPl, ev_rdK, ev_ix, ev_ixK, ev_deeper, ev_dpK, ev_f2, ev_f2K1, ev_f2K2, ev_f1, ev_f1K, ev_cC, ev_cCK1, ev_cCK2, ev_vC, ev_tst, ev_tstK, ev_and, ev_andT, ev_andF, ev_or, ev_orT, ev_orF, ev_not, ev_notK, ev_if, ev_ifT, ev_ifF, ev_nil, ev_cons, ev_consK1, ev_consK2, ev_callL, ev_callLK, ev_itL, ev_itLK, ev_it, ev_itK, ev_anil, ev_av, ev_avK1, ev_avK2, ev_ai, ev_aiJ, ev_aiK, ev_call, ev_callAR, ev_callK, ev_coR, ev_coE, ga_nil, ga_v, ga_i, ga_iK, ga_K, sc_nil, sc_v, sc_i, ev_seq, ev_seqN, ev_seqR, ev_seqE, ev_next, sb_ok, sb_exc, ev_sb, ev_sret, ev_retK, ev_expr, ev_nxK, ev_sif, ev_sifT, ev_sifF, ev_gu, ev_asg, ev_asgK, ev_set, ev_par, ev_parK, ev_gcK, ev_gc, ev_gn, ev_gtup, ev_gix, ev_gixK, ev_chg, ev_chK, ev_mv, ev_mvK, ev_lenB, ev_lenBK, ev_lbK, ev_emp, ev_empK, ev_epK, ev_sl, ev_slK0, ev_slK1, ev_slK2, ev_pI, ev_pIK, ev_pnil, ev_outN, ev_outR, ev_outE, ou_nil, ou_cons, xC, xVar, xBin, xNeg, atomV, get_nil, get_one, set_nil, set_one, pown_nil, pown_one, Option.isSome_some, Bool.and_self, Bool.and_true, Bool.true_and, Option.getD_some, Option.getD_none, List.getElem?_cons_zero, List.getElem?_cons_succ, List.set_cons_zero, List.set_cons_succ, List.nil_append, List.length_cons, List.length_nil, gNe, Option.map_some, if_true, if_false, Bool.not_true, Bool.not_false, Option.bind_some, List.isEmpty_nil, T.fz, NK.m, NK.fz, ev_lend, ev_lendB, ev_lendBK, ev_lendE, ev_lendBE, fzE_nil, fzE_none, fzE_some, ev_bNv, ev_bNvK, hm, gAdd, gInt, gMod, show (0 : Int) < 4294966943 by decide, hd, hs]
def tailS : FS := (sSeq (sIf (bAnd (cC gLt (fRd (fPl 3)) (fLenB (fIx (xC (.str "cells")) (fPl 0)))) (cC gGe (fCallL gAbs (fCons (fRd (fPl 4)) fNil)) (f2 gPow (M.ret (.int 10)) (M.ret (.int 18)))))
      (sSeq (sAsg (f2 gDiv (f2 Tr.gSub (fCallL gAbs (fCons (fRd (fPl 4)) fNil)) (f2 gPow (M.ret (.int 10)) (M.ret (.int 18)))) (fRd (fPl 1))) (gIx (xC (.str "left")) (fPl 0)))
      (sRet (f2 gMod (fCallL gInt (fCons (f2 Tr.gSub (fCallL gAbs (fCons (fRd (fPl 4)) fNil)) (f2 gPow (M.ret (.int 10)) (M.ret (.int 18)))) fNil)) (fRd (fPl 1)))))
      sNext) mixS)
/-- what a drawing leaves -/
theorem draw_ok (m : Bool) (cells : List Int) (turn left span : Int) (ht : 0 ≤ turn) (ht2 : turn < 18446744073709551616) (hs : 0 < span) (h2 : span.natAbs.log2 < 9000) :
    ∃ (d : Int) (m' : Bool) (turn' left' : Int), f__law_draw [penT m cells turn left, .int span] = .ret (.int d) [penT m' cells turn' left', .int span] ∧ 0 ≤ d ∧ d < span ∧ 0 ≤ turn' ∧ turn' ≤ turn + 1 := by
  by_cases h : 0 < left
  · exact ⟨_, _, _, _, draw_left m cells turn left span h hs h2, (bd_mod hs).1, (bd_mod hs).2, ht, by omega⟩
  · rw [draw_ev]
    have hb : b__law_draw = sSeq (sIf (cC gGt (fRd (fIx (xC (.str "left")) (fPl 0))) (M.ret (.int 0)))
      (sSeq (sAsg (f2 gMod (fCallL gInt (fCons (fRd (fIx (xC (.str "left")) (fPl 0))) fNil)) (fRd (fPl 1))) (gSet 2))
      (sSeq (sAsg (f2 gDiv (fRd (fIx (xC (.str "left")) (fPl 0))) (fRd (fPl 1))) (gIx (xC (.str "left")) (fPl 0)))
      (sRet (fMv 2)))) sNext)
      (sSeq (sAsg (fRd (fIx (xC (.str "turn")) (fPl 0))) (gSet 3))
      (sSeq (sAsg (f2 gAdd (fRd (fPl 3)) (M.ret (.int 1))) (gIx (xC (.str "turn")) (fPl 0)))
      (sSeq (sAsg (f2 gAdd (f2 gMul (M.ret (.int 61)) (fRd (fPl 3))) (M.ret (.int 13))) (gSet 4))
      (sSeq (sIf (cEmp true (fIx (xC (.str "cells")) (fPl 0)))
      (sAsg (f2 gIxT (fRd (fIx (xC (.str "cells")) (fPl 0))) (f2 gMod (fCallL gInt (fCons (fRd (fPl 3)) fNil)) (fLenB (fIx (xC (.str "cells")) (fPl 0))))) (gSet 4))
      sNext)
      tailS)))) := rfl
    rw [hb]
    clear hb
    unfold penT
    have hm0 : gMul (.int 61) (.int turn) = some (.int (61 * turn)) := mulL (by decide) (by decide)
    have hpw : gPow (.int 10) (.int 18) = some (.int (10 ^ 18)) := by
      unfold gPow
      dsimp only
      rw [if_pos (by decide)]
      rfl
    -- the cell
    have key : ∀ (m1 : Bool) (cell : Int), ∃ (d : Int) (m' : Bool) (turn' left' : Int), outK [true, true] (tailS [some (.nd (.dct true penK) [.nd (.lst m1) (cells.map T.int), .int (turn + 1), .int left]), some (.int span), none, some (.int turn), some (.int cell), none]) = .ret (.int d) [.nd (.dct true penK) [.nd (.lst m') (cells.map T.int), .int turn', .int left'], .int span] ∧ 0 ≤ d ∧ d < span ∧ 0 ≤ turn' ∧ turn' ≤ turn + 1 := by
      intro m1 cell
      unfold tailS
      obtain ⟨d, x, e1, e2, e3⟩ := mix_ok (.nd (.dct true penK) [.nd (.lst m1) (cells.map T.int), .int (turn + 1), .int left]) none none span turn cell ht ht2 hs
      by_cases h1 : turn < (cells.length : Nat)
      · by_cases h3 : (10 ^ 18 : Int) ≤ (if cell < 0 then -cell else cell)
        · refine ⟨_, m1, turn + 1, ((if cell < 0 then -cell else cell) - 10 ^ 18) / span, ?_, (bd_mod (a := (if cell < 0 then -cell else cell) - 10 ^ 18) hs).1, (bd_mod hs).2, by omega, Int.le_refl _⟩
          simp -implicitDefEqProofs only [ev_ok, ev_exc, ev_ret, ev_lift, ev_pl, ev_plK, ev_rd, ev_rdPl, ev_rdK, ev_ix, ev_ixK, ev_deeper, ev_dpK, ev_f2, ev_f2K1, ev_f2K2, ev_f1, ev_f1K, ev_cC, ev_cCK1, ev_cCK2, ev_vC, ev_tst, ev_tstK, ev_and, ev_andT, ev_andF, ev_or, ev_orT, ev_orF, ev_not, ev_notK, ev_if, ev_ifT, ev_ifF, ev_nil, ev_cons, ev_consK1, ev_consK2, ev_callL, ev_callLK, ev_itL, ev_itLK, ev_it, ev_itK, ev_anil, ev_av, ev_avK1, ev_avK2, ev_ai, ev_aiJ, ev_aiK, ev_call, ev_callAR, ev_callK, ev_coR, ev_coE, ga_nil, ga_v, ga_i, ga_iK, ga_K, sc_nil, sc_v, sc_i, ev_seq, ev_seqN, ev_seqR, ev_seqE, ev_next, sb_ok, sb_exc, ev_sb, ev_sret, ev_retK, ev_expr, ev_nxK, ev_sif, ev_sifT, ev_sifF, ev_gu, ev_asg, ev_asgK, ev_set, ev_par, ev_parK, ev_gcK, ev_gc, ev_gn, ev_gtup, ev_gix, ev_gixK, ev_chg, ev_chK, ev_mv, ev_mvK, ev_lenB, ev_lenBK, ev_lbK, ev_emp, ev_empK, ev_epK, ev_sl, ev_slK0, ev_slK1, ev_slK2, ev_pI, ev_pIK, ev_pnil, ev_outN, ev_outR, ev_outE, ou_nil, ou_cons, xC, xVar, xBin, xNeg, atomV, get_nil, get_one, set_nil, set_one, pown_nil, pown_one, Option.isSome_some, Bool.and_self, Bool.and_true, Bool.true_and, Option.getD_some, Option.getD_none, List.getElem?_cons_zero, List.getElem?_cons_succ, List.set_cons_zero, List.set_cons_succ, List.nil_append, List.length_cons, List.length_nil, gNe, Option.map_some, if_true, if_false, Bool.not_true, Bool.not_false, Option.bind_some, List.isEmpty_nil, T.fz, NK.m, NK.fz, ev_lend, ev_lendB, ev_lendBK, ev_lendE, ev_lendBE, fzE_nil, fzE_none, fzE_some, ev_bNv, ev_bNvK, gLt, gGe, gAbs, Tr.gSub, gDiv, gMod, gInt, len_ints, pos_cells, h1, hpw, h3, decide_true, hs, h2, and_self, set_left]
        · refine ⟨d, m1, turn + 1, left, ?_, e2, e3, by omega, Int.le_refl _⟩
          simp -implicitDefEqProofs only [ev_ok, ev_exc, ev_ret, ev_lift, ev_pl, ev_plK, ev_rd, ev_rdPl, ev_rdK, ev_ix, ev_ixK, ev_deeper, ev_dpK, ev_f2, ev_f2K1, ev_f2K2, ev_f1, ev_f1K, ev_cC, ev_cCK1, ev_cCK2, ev_vC, ev_tst, ev_tstK, ev_and, ev_andT, ev_andF, ev_or, ev_orT, ev_orF, ev_not, ev_notK, ev_if, ev_ifT, ev_ifF, ev_nil, ev_cons, ev_consK1, ev_consK2, ev_callL, ev_callLK, ev_itL, ev_itLK, ev_it, ev_itK, ev_anil, ev_av, ev_avK1, ev_avK2, ev_ai, ev_aiJ, ev_aiK, ev_call, ev_callAR, ev_callK, ev_coR, ev_coE, ga_nil, ga_v, ga_i, ga_iK, ga_K, sc_nil, sc_v, sc_i, ev_seq, ev_seqN, ev_seqR, ev_seqE, ev_next, sb_ok, sb_exc, ev_sb, ev_sret, ev_retK, ev_expr, ev_nxK, ev_sif, ev_sifT, ev_sifF, ev_gu, ev_asg, ev_asgK, ev_set, ev_par, ev_parK, ev_gcK, ev_gc, ev_gn, ev_gtup, ev_gix, ev_gixK, ev_chg, ev_chK, ev_mv, ev_mvK, ev_lenB, ev_lenBK, ev_lbK, ev_emp, ev_empK, ev_epK, ev_sl, ev_slK0, ev_slK1, ev_slK2, ev_pI, ev_pIK, ev_pnil, ev_outN, ev_outR, ev_outE, ou_nil, ou_cons, xC, xVar, xBin, xNeg, atomV, get_nil, get_one, set_nil, set_one, pown_nil, pown_one, Option.isSome_some, Bool.and_self, Bool.and_true, Bool.true_and, Option.getD_some, Option.getD_none, List.getElem?_cons_zero, List.getElem?_cons_succ, List.set_cons_zero, List.set_cons_succ, List.nil_append, List.length_cons, List.length_nil, gNe, Option.map_some, if_true, if_false, Bool.not_true, Bool.not_false, Option.bind_some, List.isEmpty_nil, T.fz, NK.m, NK.fz, ev_lend, ev_lendB, ev_lendBK, ev_lendE, ev_lendBE, fzE_nil, fzE_none, fzE_some, ev_bNv, ev_bNvK, gLt, gGe, gAbs, len_ints, pos_cells, h1, hpw, h3, decide_true, decide_false, e1]
      · refine ⟨d, m1, turn + 1, left, ?_, e2, e3, by omega, Int.le_refl _⟩
        simp -implicitDefEqProofs only [ev_ok, ev_exc, ev_ret, ev_lift, ev_pl, ev_plK, ev_rd, ev_rdPl, ev_rdK, ev_ix, ev_ixK, ev_deeper, ev_dpK, ev_f2, ev_f2K1, ev_f2K2, ev_f1, ev_f1K, ev_cC, ev_cCK1, ev_cCK2, ev_vC, ev_tst, ev_tstK, ev_and, ev_andT, ev_andF, ev_or, ev_orT, ev_orF, ev_not, ev_notK, ev_if, ev_ifT, ev_ifF, ev_nil, ev_cons, ev_consK1, ev_consK2, ev_callL, ev_callLK, ev_itL, ev_itLK, ev_it, ev_itK, ev_anil, ev_av, ev_avK1, ev_avK2, ev_ai, ev_aiJ, ev_aiK, ev_call, ev_callAR, ev_callK, ev_coR, ev_coE, ga_nil, ga_v, ga_i, ga_iK, ga_K, sc_nil, sc_v, sc_i, ev_seq, ev_seqN, ev_seqR, ev_seqE, ev_next, sb_ok, sb_exc, ev_sb, ev_sret, ev_retK, ev_expr, ev_nxK, ev_sif, ev_sifT, ev_sifF, ev_gu, ev_asg, ev_asgK, ev_set, ev_par, ev_parK, ev_gcK, ev_gc, ev_gn, ev_gtup, ev_gix, ev_gixK, ev_chg, ev_chK, ev_mv, ev_mvK, ev_lenB, ev_lenBK, ev_lbK, ev_emp, ev_empK, ev_epK, ev_sl, ev_slK0, ev_slK1, ev_slK2, ev_pI, ev_pIK, ev_pnil, ev_outN, ev_outR, ev_outE, ou_nil, ou_cons, xC, xVar, xBin, xNeg, atomV, get_nil, get_one, set_nil, set_one, pown_nil, pown_one, Option.isSome_some, Bool.and_self, Bool.and_true, Bool.true_and, Option.getD_some, Option.getD_none, List.getElem?_cons_zero, List.getElem?_cons_succ, List.set_cons_zero, List.set_cons_succ, List.nil_append, List.length_cons, List.length_nil, gNe, Option.map_some, if_true, if_false, Bool.not_true, Bool.not_false, Option.bind_some, List.isEmpty_nil, T.fz, NK.m, NK.fz, ev_lend, ev_lendB, ev_lendBK, ev_lendE, ev_lendBE, fzE_nil, fzE_none, fzE_some, ev_bNv, ev_bNvK, gLt, len_ints, pos_cells, h1, decide_false, e1]
    cases cells with
    | nil =>
      obtain ⟨d, m', turn', left', k1, k2⟩ := key m (61 * turn + 13)
      refine ⟨d, m', turn', left', ?_, k2⟩
      rw [← k1]
      simp -implicitDefEqProofs only [ev_ok, ev_exc, ev_ret, ev_lift, ev_pl, ev_plK, ev_rd, ev_rdPl, ev_rdK, ev_ix, ev_ixK, ev_deeper, ev_dpK, ev_f2, ev_f2K1, ev_f2K2, ev_f1, ev_f1K, ev_cC, ev_cCK1, ev_cCK2, ev_vC, ev_tst, ev_tstK, ev_and, ev_andT, ev_andF, ev_or, ev_orT, ev_orF, ev_not, ev_notK, ev_if, ev_ifT, ev_ifF, ev_nil, ev_cons, ev_consK1, ev_consK2, ev_callL, ev_callLK, ev_itL, ev_itLK, ev_it, ev_itK, ev_anil, ev_av, ev_avK1, ev_avK2, ev_ai, ev_aiJ, ev_aiK, ev_call, ev_callAR, ev_callK, ev_coR, ev_coE, ga_nil, ga_v, ga_i, ga_iK, ga_K, sc_nil, sc_v, sc_i, ev_seq, ev_seqN, ev_seqR, ev_seqE, ev_next, sb_ok, sb_exc, ev_sb, ev_sret, ev_retK, ev_expr, ev_nxK, ev_sif, ev_sifT, ev_sifF, ev_gu, ev_asg, ev_asgK, ev_set, ev_par, ev_parK, ev_gcK, ev_gc, ev_gn, ev_gtup, ev_gix, ev_gixK, ev_chg, ev_chK, ev_mv, ev_mvK, ev_lenB, ev_lenBK, ev_lbK, ev_emp, ev_empK, ev_epK, ev_sl, ev_slK0, ev_slK1, ev_slK2, ev_pI, ev_pIK, ev_pnil, ev_outN, ev_outR, ev_outE, ou_nil, ou_cons, xC, xVar, xBin, xNeg, atomV, get_nil, get_one, set_nil, set_one, pown_nil, pown_one, Option.isSome_some, Bool.and_self, Bool.and_true, Bool.true_and, Option.getD_some, Option.getD_none, List.getElem?_cons_zero, List.getElem?_cons_succ, List.set_cons_zero, List.set_cons_succ, List.nil_append, List.length_cons, List.length_nil, gNe, Option.map_some, if_true, if_false, Bool.not_true, Bool.not_false, Option.bind_some, List.isEmpty_nil, T.fz, NK.m, NK.fz, ev_lend, ev_lendB, ev_lendBK, ev_lendE, ev_lendBE, fzE_nil, fzE_none, fzE_some, ev_bNv, ev_bNvK, pos_left, pos_turn, pos_cells, gGt, h, decide_false, set_turn, emp_ints, List.isEmpty_nil, gAdd, hm0]
    | cons c0 cs =>
      have hl : (0 : Int) < ((c0 :: cs).length : Nat) := by rw [List.length_cons]; omega
      have b := bd_mod (a := turn) hl
      have hix : gIxT (.nd (.lst false) ((c0 :: cs).map T.int)) (.int (turn % ((c0 :: cs).length : Nat))) = some (.int ((c0 :: cs).getD (turn % ((c0 :: cs).length : Nat)).toNat 0)) := ix_ints (.inl ⟨_, rfl⟩) b.1 b.2
      revert hix hl b
      generalize hcs : c0 :: cs = cells at *
      intro hl b hix
      have hne : cells.isEmpty = false := by rw [← hcs]; rfl
      obtain ⟨d, m', turn', left', k1, k2⟩ := key false (cells.getD (turn % (cells.length : Nat)).toNat 0)
      refine ⟨d, m', turn', left', ?_, k2⟩
      rw [← k1]
      cases m <;> simp -implicitDefEqProofs only [ev_ok, ev_exc, ev_ret, ev_lift, ev_pl, ev_plK, ev_rd, ev_rdPl, ev_rdK, ev_ix, ev_ixK, ev_deeper, ev_dpK, ev_f2, ev_f2K1, ev_f2K2, ev_f1, ev_f1K, ev_cC, ev_cCK1, ev_cCK2, ev_vC, ev_tst, ev_tstK, ev_and, ev_andT, ev_andF, ev_or, ev_orT, ev_orF, ev_not, ev_notK, ev_if, ev_ifT, ev_ifF, ev_nil, ev_cons, ev_consK1, ev_consK2, ev_callL, ev_callLK, ev_itL, ev_itLK, ev_it, ev_itK, ev_anil, ev_av, ev_avK1, ev_avK2, ev_ai, ev_aiJ, ev_aiK, ev_call, ev_callAR, ev_callK, ev_coR, ev_coE, ga_nil, ga_v, ga_i, ga_iK, ga_K, sc_nil, sc_v, sc_i, ev_seq, ev_seqN, ev_seqR, ev_seqE, ev_next, sb_ok, sb_exc, ev_sb, ev_sret, ev_retK, ev_expr, ev_nxK, ev_sif, ev_sifT, ev_sifF, ev_gu, ev_asg, ev_asgK, ev_set, ev_par, ev_parK, ev_gcK, ev_gc, ev_gn, ev_gtup, ev_gix, ev_gixK, ev_chg, ev_chK, ev_mv, ev_mvK, ev_lenB, ev_lenBK, ev_lbK, ev_emp, ev_empK, ev_epK, ev_sl, ev_slK0, ev_slK1, ev_slK2, ev_pI, ev_pIK, ev_pnil, ev_outN, ev_outR, ev_outE, ou_nil, ou_cons, xC, xVar, xBin, xNeg, atomV, get_nil, get_one, set_nil, set_one, pown_nil, pown_one, Option.isSome_some, Bool.and_self, Bool.and_true, Bool.true_and, Option.getD_some, Option.getD_none, List.getElem?_cons_zero, List.getElem?_cons_succ, List.set_cons_zero, List.set_cons_succ, List.nil_append, List.length_cons, List.length_nil, gNe, Option.map_some, if_true, if_false, Bool.not_true, Bool.not_false, Option.bind_some, List.isEmpty_nil, T.fz, NK.m, NK.fz, ev_lend, ev_lendB, ev_lendBK, ev_lendE, ev_lendBE, fzE_nil, fzE_none, fzE_some, ev_bNv, ev_bNvK, pos_left, pos_turn, pos_cells, gGt, h, decide_false, set_turn, emp_ints, hne, gAdd, hm0, gInt, gMod, len_ints, hl, hix, fzL_ints, Bool.false_eq_true]
end TrLaw
end

section
set_option Elab.async false
set_option linter.all false
set_option autoImplicit false
set_option maxRecDepth 100000
namespace Tr
open PySem PySem.Spec PyProof.Rows L2
def SeqK (k : NK) : Prop := k = .lst false ∨ k = .tup
abbrev sqT' (k : NK) (a : List Int) : T := .nd k (a.map T.int)
abbrev at' (a : List Int) (i : Nat) : Int := a.getD i 0
theorem fz_sq {k : NK} (h : SeqK k) (xs : List T) : T.fz (.nd k xs) = .nd k xs := by rcases h with rfl | rfl <;> rfl
theorem len_sqT (k : NK) (h : (∃ m, k = .lst m) ∨ k = .tup) (a : List Int) : gLen (sqT' k a) = some (.int (a.length : Nat)) := by
  rcases h with ⟨m, rfl⟩ | rfl
  · show some (T.int ((a.map T.int).length : Nat)) = _
    rw [List.length_map]
  · show some (T.int ((a.map T.int).length : Nat)) = _
    rw [List.length_map]
theorem SeqK.any {k : NK} (h : SeqK k) : (∃ m, k = .lst m) ∨ k = .tup := by
  rcases h with rfl | rfl
  · exact .inl ⟨_, rfl⟩
  · exact .inr rfl
theorem pos_sqT {k : NK} (h : (∃ m, k = .lst m) ∨ k = .tup) {a : List Int} {i : Nat} (hi : i < a.length) : posIx (sqT' k a) (.int (i : Int)) = some i := by
  have e : ixN (a.map T.int).length (i : Int) = some i := by
    rw [List.length_map, ixN_of (by omega) (by omega)]
    simp
  rcases h with ⟨m, rfl⟩ | rfl <;> exact e
theorem get_sq {a : List Int} {i : Nat} (hi : i < a.length) : (a.map T.int)[i]? = some (.int (at' a i)) := by
  rw [List.getElem?_map, List.getElem?_eq_getElem hi]
  simp [at', List.getD_eq_getElem?_getD, List.getElem?_eq_getElem hi]
theorem fzt (m : Bool) (ns : List Int) : T.fz (.nd (.lst m) (ns.map T.int)) = .nd (.lst false) (ns.map T.int) := fz_lst' m ns
theorem mem_at {v : List Int} {j : Nat} (h : j < v.length) : at' v j ∈ v := by
  have : at' v j = v[j] := by simp [at', List.getD_eq_getElem?_getD, List.getElem?_eq_getElem h]
  rw [this]
  exact List.getElem_mem h
/-- an element of an owned or frozen list of ints -/
theorem rd_el {i : Nat} {k : NK} {a : List Int} {j : Nat} {g : Tr.Env → Option T} {ρ : Tr.Env} (hk : (∃ m, k = .lst m) ∨ k = .tup) (hj : j < a.length) (hr : ρ[i]? = some (some (sqT' k a))) (hg : g ρ = some (.int (j : Int))) : fRd (fIx g (fPl i)) ρ = .ok (.int (at' a j)) ρ :=
  rd_at (ix_at (pl_at hr) hr (get_nil _) hg rfl (pos_sqT hk hj) (get_sq hj)) hr (get_at (get_nil _) (get_sq hj)) rfl
theorem ev_whT {n : Nat} {fc : M Bool} {f : FS} {ρ ρ1 ρ2 : Tr.Env} (h1 : fc ρ = .ok true ρ1) (h2 : f ρ1 = .nx ρ2) : sWhile (n + 1) fc f ρ = sWhile n fc f ρ2 := by
  rw [sWhile, ev_sb, h1, sb_ok]
  show (match f ρ1 with
    | .nx ρ' => sWhile n fc f ρ'
    | .ct ρ' => sWhile n fc f ρ'
    | .brk ρ' => .nx ρ'
    | o => o) = _
  rw [h2]
theorem ev_whF {n : Nat} {fc : M Bool} {f : FS} {ρ ρ1 : Tr.Env} (h1 : fc ρ = .ok false ρ1) : sWhile (n + 1) fc f ρ = .nx ρ1 := by
  rw [sWhile, ev_sb, h1, sb_ok]
  rfl
theorem lstL_ints (ns : List Int) (h : ns.length ≤ 100000) : gLstL (ns.map T.int) = some (.nd (.lst true) (ns.map T.int)) := by
  unfold gLstL
  exact if_pos (by rw [List.length_map, sizeLine_eq]; omega)
end Tr
namespace TrLaw
open Tr PySem PySem.Spec PyProof.Rows L2
def PenOk (p : T) (B : Int) : Prop := ∃ m cs turn left, p = penT m cs turn left ∧ 0 ≤ turn ∧ turn ≤ B
theorem PenOk.le {p : T} {B B' : Int} (h : PenOk p B) (hb : B ≤ B') : PenOk p B' := by
  obtain ⟨m, cs, t, l, e, h1, h2⟩ := h
  exact ⟨m, cs, t, l, e, h1, by omega⟩
theorem log_small {span : Int} (hs : 0 < span) (h2 : span ≤ 100000000000000000000) : span.natAbs.log2 < 9000 := by
  have h5 : span.natAbs < 2 ^ 70 := by omega
  have h6 : span.natAbs ≠ 0 := by omega
  have := (Nat.log2_lt h6).mpr h5
  omega
theorem draw_pen {p : T} {B span : Int} (h : PenOk p B) (hB : B < 1000000) (hs : 0 < span) (h2 : span ≤ 100000000000000000000) : ∃ d p', f__law_draw [p, .int span] = .ret (.int d) [p', .int span] ∧ 0 ≤ d ∧ d < span ∧ PenOk p' (B + 1) := by
  obtain ⟨m, cs, turn, left, rfl, h3, h4⟩ := h
  obtain ⟨d, m', turn', left', e, d0, d1, t0, t1⟩ := draw_ok m cs turn left span h3 (by omega) hs (log_small hs h2)
  exact ⟨d, _, e, d0, d1, m', cs, turn', left', rfl, t0, by omega⟩
theorem pen_call {f : CF} {j : Nat} {ρ : Tr.Env} {p p' v v' t : T} {e : M T} (hr : ρ[j]? = some (some p)) (he : e ρ = .ok v ρ) (hd : f [p, v] = .ret t [p', v']) :
    fCall f (fAI j (fAV e fANil)) ρ = .ok t (ρ.set j (some p')) := by
  rw [ev_call, ev_ai, hr, ev_aiJ, ev_av, he]
  simp -implicitDefEqProofs only [ev_ok, ev_exc, ev_ret, ev_lift, ev_pl, ev_plK, ev_rd, ev_rdPl, ev_rdK, ev_ix, ev_ixK, ev_deeper, ev_dpK, ev_f2, ev_f2K1, ev_f2K2, ev_f1, ev_f1K, ev_cC, ev_cCK1, ev_cCK2, ev_vC, ev_tst, ev_tstK, ev_and, ev_andT, ev_andF, ev_or, ev_orT, ev_orF, ev_not, ev_notK, ev_if, ev_ifT, ev_ifF, ev_nil, ev_cons, ev_consK1, ev_consK2, ev_callL, ev_callLK, ev_itL, ev_itLK, ev_it, ev_itK, ev_anil, ev_av, ev_avK1, ev_avK2, ev_ai, ev_aiJ, ev_aiK, ev_call, ev_callAR, ev_callK, ev_coR, ev_coE, ga_nil, ga_v, ga_i, ga_iK, ga_K, sc_nil, sc_v, sc_i, ev_seq, ev_seqN, ev_seqR, ev_seqE, ev_next, sb_ok, sb_exc, ev_sb, ev_sret, ev_retK, ev_expr, ev_nxK, ev_sif, ev_sifT, ev_sifF, ev_gu, ev_asg, ev_asgK, ev_set, ev_par, ev_parK, ev_gcK, ev_gc, ev_gn, ev_gtup, ev_gix, ev_gixK, ev_chg, ev_chK, ev_mv, ev_mvK, ev_lenB, ev_lenBK, ev_lbK, ev_emp, ev_empK, ev_epK, ev_sl, ev_slK0, ev_slK1, ev_slK2, ev_pI, ev_pIK, ev_pnil, ev_outN, ev_outR, ev_outE, ou_nil, ou_cons, xC, xVar, xBin, xNeg, atomV, get_nil, get_one, set_nil, set_one, pown_nil, pown_one, Option.isSome_some, Bool.and_self, Bool.and_true, Bool.true_and, Option.getD_some, Option.getD_none, List.getElem?_cons_zero, List.getElem?_cons_succ, List.set_cons_zero, List.set_cons_succ, List.nil_append, List.length_cons, List.length_nil, gNe, Option.map_some, if_true, if_false, Bool.not_true, Bool.not_false, Option.bind_some, List.isEmpty_nil, T.fz, NK.m, NK.fz, ev_lend, ev_lendB, ev_lendBK, ev_lendE, ev_lendBE, fzE_nil, fzE_none, fzE_some, ev_bNv, ev_bNvK, hr, hd]
  rw [List.set_set]
theorem lenB_lst {i : Nat} {m : Bool} {a : List Int} {ρ : Tr.Env} (hr : ρ[i]? = some (some (.nd (.lst m) (a.map T.int)))) : fLenB (fPl i) ρ = .ok (.int (a.length : Nat)) ρ := len_at (pl_at hr) hr (get_nil _) (len_ints m a)
theorem pick_ok {p : T} {B : Int} {m : Bool} {opts : List Int} (hp : PenOk p B) (hB : B < 1000000) (h0 : 0 < opts.length) (h1 : opts.length < 1000) :
    ∃ x p' t, f__law_pick [p, .nd (.lst m) (opts.map T.int)] = .ret (.int x) [p', t] ∧ x ∈ opts ∧ PenOk p' (B + 1) := by
  have hev : f__law_pick [p, .nd (.lst m) (opts.map T.int)] = outK [true, true] (b__law_pick [some p, some (.nd (.lst m) (opts.map T.int))]) := run_ev rfl rfl
  rw [hev]
  clear hev
  unfold b__law_pick
  obtain ⟨d, p', e, d0, d1, hp'⟩ := draw_pen (span := (opts.length : Nat)) hp hB (by omega) (by omega)
  have r1 : fRd (fPl 1) [some p, some (.nd (.lst m) (opts.map T.int))] = .ok (.nd (.lst false) (opts.map T.int)) [some p, some (.nd (.lst false) (opts.map T.int))] := by
    simp only [ev_rd, ev_pl, ev_plK, ev_ok, ev_rdPl, ev_rdK, List.getElem?_cons_succ, List.getElem?_cons_zero, get_nil, set_nil, List.set_cons_succ, List.set_cons_zero]
    rw [fz_lst']
  have l1 : fLenB (fPl 1) [some p, some (.nd (.lst false) (opts.map T.int))] = .ok (.int (opts.length : Nat)) [some p, some (.nd (.lst false) (opts.map T.int))] := lenB_lst rfl
  have c := pen_call (j := 0) (ρ := [some p, some (.nd (.lst false) (opts.map T.int))]) rfl l1 e
  have ix : gIxT (.nd (.lst false) (opts.map T.int)) (.int d) = some (.int (opts.getD d.toNat 0)) := ix_ints (.inl ⟨_, rfl⟩) d0 d1
  have hm : opts.getD d.toNat 0 ∈ opts := mem_at (by omega)
  refine ⟨opts.getD d.toNat 0, p', .nd (.lst false) (opts.map T.int), ?_, hm, hp'⟩
  simp -implicitDefEqProofs only [ev_ok, ev_exc, ev_ret, ev_lift, ev_pl, ev_plK, ev_rd, ev_rdPl, ev_rdK, ev_ix, ev_ixK, ev_deeper, ev_dpK, ev_f2, ev_f2K1, ev_f2K2, ev_f1, ev_f1K, ev_cC, ev_cCK1, ev_cCK2, ev_vC, ev_tst, ev_tstK, ev_and, ev_andT, ev_andF, ev_or, ev_orT, ev_orF, ev_not, ev_notK, ev_if, ev_ifT, ev_ifF, ev_nil, ev_cons, ev_consK1, ev_consK2, ev_callL, ev_callLK, ev_itL, ev_itLK, ev_it, ev_itK, ev_anil, ev_av, ev_avK1, ev_avK2, ev_ai, ev_aiJ, ev_aiK, ev_call, ev_callAR, ev_callK, ev_coR, ev_coE, ga_nil, ga_v, ga_i, ga_iK, ga_K, sc_nil, sc_v, sc_i, ev_seq, ev_seqN, ev_seqR, ev_seqE, ev_next, sb_ok, sb_exc, ev_sb, ev_sret, ev_retK, ev_expr, ev_nxK, ev_sif, ev_sifT, ev_sifF, ev_gu, ev_asg, ev_asgK, ev_set, ev_par, ev_parK, ev_gcK, ev_gc, ev_gn, ev_gtup, ev_gix, ev_gixK, ev_chg, ev_chK, ev_mv, ev_mvK, ev_lenB, ev_lenBK, ev_lbK, ev_emp, ev_empK, ev_epK, ev_sl, ev_slK0, ev_slK1, ev_slK2, ev_pI, ev_pIK, ev_pnil, ev_outN, ev_outR, ev_outE, ou_nil, ou_cons, xC, xVar, xBin, xNeg, atomV, get_nil, get_one, set_nil, set_one, pown_nil, pown_one, Option.isSome_some, Bool.and_self, Bool.and_true, Bool.true_and, Option.getD_some, Option.getD_none, List.getElem?_cons_zero, List.getElem?_cons_succ, List.set_cons_zero, List.set_cons_succ, List.nil_append, List.length_cons, List.length_nil, gNe, Option.map_some, if_true, if_false, Bool.not_true, Bool.not_false, Option.bind_some, List.isEmpty_nil, T.fz, NK.m, NK.fz, ev_lend, ev_lendB, ev_lendBK, ev_lendE, ev_lendBE, fzE_nil, fzE_none, fzE_some, ev_bNv, ev_bNvK, ↓r1, ↓c, ix]
theorem pick_at {j : Nat} {p : T} {B : Int} {opts : List Int} {e : M T} {ρ : Tr.Env} (hr : ρ[j]? = some (some p)) (he : e ρ = .ok (.nd (.lst true) (opts.map T.int)) ρ) (hp : PenOk p B) (hB : B < 1000000) (h0 : 0 < opts.length) (h1 : opts.length < 1000) :
    ∃ x p', fCall f__law_pick (fAI j (fAV e fANil)) ρ = .ok (.int x) (ρ.set j (some p')) ∧ x ∈ opts ∧ PenOk p' (B + 1) := by
  obtain ⟨x, p', t, e1, e2, e3⟩ := pick_ok (m := true) hp hB h0 h1
  exact ⟨x, p', pen_call hr he e1, e2, e3⟩
theorem draw_at {j : Nat} {p : T} {B span : Int} {e : M T} {ρ : Tr.Env} (hr : ρ[j]? = some (some p)) (he : e ρ = .ok (.int span) ρ) (hp : PenOk p B) (hB : B < 1000000) (hs : 0 < span) (h2 : span ≤ 100000000000000000000) :
    ∃ d p', fCall f__law_draw (fAI j (fAV e fANil)) ρ = .ok (.int d) (ρ.set j (some p')) ∧ 0 ≤ d ∧ d < span ∧ PenOk p' (B + 1) := by
  obtain ⟨d, p', e1, e2, e3, e4⟩ := draw_pen hp hB hs h2
  exact ⟨d, p', pen_call hr he e1, e2, e3, e4⟩
/-- a comprehension that draws -/
theorem lc_pen {i : Nat} {fe : M T} {E : T → Option T → Tr.Env} {Good : Int → Prop} {p : T} {B : Int} (n : Nat) (x0 : Option T) (hn : n ≤ 1000) (hp : PenOk p B) (hB : B + n < 1000000) (hset : ∀ p x t, (E p x).set i (some t) = E p (some t)) (hwipe : ∀ p x, wipeE (E p x) [i] = E p none)
    (hstep : ∀ p B t, PenOk p B → B < 1000000 → ∃ d p', fe (E p (some t)) = .ok (.int d) (E p' (some t)) ∧ Good d ∧ PenOk p' (B + 1)) :
    ∃ (ds : List Int) (p' : T), lcK [i] (gSet i) (M.ret true) fe ((List.range n).map fun (i : Nat) => T.int (0 + (i : Int))) (E p x0) = .ok (.nd (.lst true) (ds.map T.int)) (E p' none) ∧ ds.length = n ∧ (∀ x ∈ ds, Good x) ∧ PenOk p' (B + n) := by
  have L := lc_inv (g := gSet i) (tt := M.ret true) (fe := fe) (vs := [i]) (Inv := fun j acc ρ => ∃ (ds : List Int) (p' : T), acc = ds.map T.int ∧ ρ = E p' none ∧ ds.length = j ∧ (∀ x ∈ ds, Good x) ∧ PenOk p' (B + j)) ((List.range n).map fun (i : Nat) => T.int (0 + (i : Int))) 0 [] (E p none) ⟨[], p, rfl, rfl, rfl, (fun x hx => by cases hx), by simpa using hp⟩ (by rw [List.length_map, List.length_range, sizeLine_eq]; omega) (Nat.zero_le _) (fun j t acc ρ ht ⟨ds, p', e1, e2, e3, e4, e5⟩ => by
    subst e1 e2
    obtain ⟨hj, rfl⟩ := rng_some ht
    rw [Nat.zero_add] at e3 e5 ⊢
    obtain ⟨d, p2, d1, d2, d3⟩ := hstep p' _ (.int (j : Int)) e5 (by omega)
    refine ⟨E p' (some (.int (j : Int))), by rw [ev_set, hset], .inr ⟨_, .int d, E p2 (some (.int (j : Int))), rfl, d1, ds ++ [d], p2, by rw [List.map_append]; rfl, hwipe _ _, by rw [List.length_append, e3]; rfl, ?_, d3.le (by omega)⟩⟩
    intro x hx
    rcases List.mem_append.mp hx with hx | hx
    · exact e4 x hx
    · rw [List.mem_singleton.mp hx]; exact d2)
  obtain ⟨acc, ρ', w1, ds, p', e1, e2, e3, e4, e5⟩ := L
  subst e1 e2
  rw [List.length_map, List.length_range, Nat.zero_add] at e3 e5
  refine ⟨ds, p', ?_, e3, e4, e5⟩
  rw [ev_lcK, hwipe, w1]
  rfl
end TrLaw
end

section
set_option Elab.async false
set_option linter.all false
set_option autoImplicit false
set_option maxRecDepth 100000
namespace Tr
open PySem PySem.Spec PyProof.Rows L2
abbrev stR (m : Bool) (xs : List Str) : T := .nd (.lst m) (xs.map T.str)
theorem len_strs (m : Bool) (xs : List Str) : gLen (stR m xs) = some (.int (xs.length : Nat)) := by
  show some (T.int ((xs.map T.str).length : Nat)) = _
  rw [List.length_map]
theorem lenB_strs {i : Nat} {m : Bool} {xs : List Str} {ρ : Tr.Env} (hr : ρ[i]? = some (some (stR m xs))) : fLenB (fPl i) ρ = .ok (.int (xs.length : Nat)) ρ := len_at (pl_at hr) hr (get_nil _) (len_strs m xs)
theorem ev_bmV {kd : T → Bool} {g : T → List T → Option (T × T)} {j : Nat} {fl : M (List T)} {ρ ρ1 : Tr.Env} {t0 t1 t lt : T} {ts : List T} (h : ρ[j]? = some (some t0)) (hk : kd t0 = true) (hl : fl ρ = .ok ts ρ1) (h1 : ρ1[j]? = some (some t1)) (hg : g t1 ts = some (t, lt)) : fBmV kd g j fl ρ = .ok t (ρ1.set j (some lt)) := by
  unfold fBmV
  rw [h]
  dsimp only
  rw [if_pos hk]
  show (fl ρ).bind _ = _
  rw [hl]
  show (match ρ1[j]? with
    | some (some t1) => _
    | _ => _) = _
  rw [h1]
  dsimp only
  rw [hg]
theorem pdL_strs : ∀ xs : List Str, pdL (xs.map T.str) = some (xs.map PyData.str)
  | [] => rfl
  | x :: xs => by rw [List.map_cons, pdL, pdL_strs xs]; rfl
abbrev OkS (xs : List Str) : Prop := ∀ x ∈ xs, PyData.strOk x = true
theorem lay_strs : ∀ xs : List Str, OkS xs → PyData.canLayAll0 (xs.map PyData.str) = true
  | [], _ => rfl
  | x :: xs, h => by rw [List.map_cons, PyData.canLayAll0, lay_strs xs (fun y hy => h y (List.mem_cons_of_mem _ hy)), PyData.canLay0, h x (List.mem_cons_self ..)]; rfl
theorem dep_strs : ∀ xs : List Str, PyData.depthAll (xs.map PyData.str) ≤ 0
  | [] => Nat.le_refl _
  | x :: xs => by have := dep_strs xs; rw [List.map_cons]; unfold PyData.depthAll; simp [PyData.depth]; omega
theorem emp_strs (neg m : Bool) (xs : List Str) (h : OkS xs) : isEmp neg (stR m xs) = some (if neg then !xs.isEmpty else xs.isEmpty) := by
  unfold isEmp
  rw [emp_of (pdL_strs xs) (lay_strs xs h) (by have := dep_strs xs; omega), List.isEmpty_map]
  rfl
theorem eqvA_strs : ∀ xs : List Str, PyData.eqvAll (xs.map PyData.str) (xs.map PyData.str) = true
  | [] => rfl
  | x :: xs => by rw [List.map_cons, PyData.eqvAll, PyData.eqv, eqvA_strs xs]; simp
theorem eq_S (m m' : Bool) (xs : List Str) (h : OkS xs) : gEq (stR m xs) (stR m' xs) = some true := by
  unfold gEq
  rw [pd, pd, pdL_strs]
  dsimp only
  rw [shp (lay_strs xs h) (by have := dep_strs xs; omega), PyData.eqv, eqvA_strs]
  rfl
theorem fzL_strs : ∀ xs : List Str, T.fzL (xs.map T.str) = xs.map T.str
  | [] => rfl
  | x :: xs => by rw [List.map_cons, T.fzL, fzL_strs xs]; rfl
theorem fz_strs (m : Bool) (xs : List Str) : T.fz (stR m xs) = stR false xs := by
  cases m with
  | true => show T.nd (.lst false) (T.fzL (xs.map T.str)) = _; rw [fzL_strs]
  | false => rfl
theorem erase_strs : ∀ (xs : List Str) (i : Nat), (xs.map T.str).eraseIdx i = (xs.eraseIdx i).map T.str
  | [], _ => rfl
  | _ :: _, 0 => rfl
  | x :: xs, i + 1 => by rw [List.map_cons, List.eraseIdx_cons_succ, List.eraseIdx_cons_succ, List.map_cons, erase_strs xs i]
theorem pop_strs {xs : List Str} {d : Int} (h0 : 0 ≤ d) (h1 : d < (xs.length : Nat)) (h2 : xs.length ≤ 1000) : mPopAt (stR true xs) [.int d] = some (.str (xs.getD d.toNat Str.empty), stR true (xs.eraseIdx d.toNat)) := by
  unfold mPopAt
  dsimp only
  rw [if_pos (by omega)]
  have hi : seqIndex? d (xs.map T.str).length = some d.toNat := by
    rw [List.length_map]
    unfold seqIndex?
    first
      | (rw [if_neg (by omega)]; first | rw [if_pos (by omega)] | skip)
      | skip
    all_goals simp
    all_goals omega
  rw [hi]
  dsimp only
  have hd : d.toNat < xs.length := by omega
  rw [List.getElem?_map, List.getElem?_eq_getElem hd]
  simp [List.getD_eq_getElem?_getD, List.getElem?_eq_getElem hd, erase_strs]
end Tr
namespace TrLaw
open Tr PySem PySem.Spec PyProof.Rows L2
theorem pen_call2 {f : CF} {j : Nat} {ρ ρ1 : Tr.Env} {p p0 p' v v' t : T} {e : M T} (hr0 : ρ[j]? = some (some p0)) (he : e ρ = .ok v ρ1) (hr : ρ1[j]? = some (some p)) (hd : f [p, v] = .ret t [p', v']) :
    fCall f (fAI j (fAV e fANil)) ρ = .ok t (ρ1.set j (some p')) := by
  rw [ev_call, ev_ai, hr0, ev_aiJ, ev_av, he]
  simp -implicitDefEqProofs only [ev_ok, ev_exc, ev_ret, ev_lift, ev_pl, ev_plK, ev_rd, ev_rdPl, ev_rdK, ev_ix, ev_ixK, ev_deeper, ev_dpK, ev_f2, ev_f2K1, ev_f2K2, ev_f1, ev_f1K, ev_cC, ev_cCK1, ev_cCK2, ev_vC, ev_tst, ev_tstK, ev_and, ev_andT, ev_andF, ev_or, ev_orT, ev_orF, ev_not, ev_notK, ev_if, ev_ifT, ev_ifF, ev_nil, ev_cons, ev_consK1, ev_consK2, ev_callL, ev_callLK, ev_itL, ev_itLK, ev_it, ev_itK, ev_anil, ev_av, ev_avK1, ev_avK2, ev_ai, ev_aiJ, ev_aiK, ev_call, ev_callAR, ev_callK, ev_coR, ev_coE, ga_nil, ga_v, ga_i, ga_iK, ga_K, sc_nil, sc_v, sc_i, ev_seq, ev_seqN, ev_seqR, ev_seqE, ev_next, sb_ok, sb_exc, ev_sb, ev_sret, ev_retK, ev_expr, ev_nxK, ev_sif, ev_sifT, ev_sifF, ev_gu, ev_asg, ev_asgK, ev_set, ev_par, ev_parK, ev_gcK, ev_gc, ev_gn, ev_gtup, ev_gix, ev_gixK, ev_chg, ev_chK, ev_mv, ev_mvK, ev_lenB, ev_lenBK, ev_lbK, ev_emp, ev_empK, ev_epK, ev_sl, ev_slK0, ev_slK1, ev_slK2, ev_pI, ev_pIK, ev_pnil, ev_outN, ev_outR, ev_outE, ou_nil, ou_cons, xC, xVar, xBin, xNeg, atomV, get_nil, get_one, set_nil, set_one, pown_nil, pown_one, Option.isSome_some, Bool.and_self, Bool.and_true, Bool.true_and, Option.getD_some, Option.getD_none, List.getElem?_cons_zero, List.getElem?_cons_succ, List.set_cons_zero, List.set_cons_succ, List.nil_append, List.length_cons, List.length_nil, gNe, Option.map_some, if_true, if_false, Bool.not_true, Bool.not_false, Option.bind_some, List.isEmpty_nil, T.fz, NK.m, NK.fz, ev_lend, ev_lendB, ev_lendBK, ev_lendE, ev_lendBE, fzE_nil, fzE_none, fzE_some, ev_bNv, ev_bNvK, hr, hd]
  rw [List.set_set]
theorem shuf_step {p : T} {B : Int} {x1 : Option T} {xs ys : List Str} (hp : PenOk p B) (hB : B < 1000000) (h0 : 0 < xs.length) (h1 : xs.length ≤ 1000) (h2 : ys.length ≤ 1000) :
    ∃ (d : Nat) (p' : T), d < xs.length ∧ PenOk p' (B + 1) ∧ l__law_shuffled_1 [some p, x1, some (stR true xs), some (stR true ys)] = .nx [some p', x1, some (stR true (xs.eraseIdx d)), some (stR true (ys ++ [xs.getD d Str.empty]))] := by
  obtain ⟨d, p', e, d0, d1, hp'⟩ := draw_pen (span := (xs.length : Nat)) hp hB (by omega) (by omega)
  have l1 : fLenB (fPl 2) [some p, x1, some (stR true xs), some (stR true ys)] = .ok (.int (xs.length : Nat)) [some p, x1, some (stR true xs), some (stR true ys)] := lenB_strs rfl
  have c := pen_call (j := 0) (ρ := [some p, x1, some (stR true xs), some (stR true ys)]) rfl l1 e
  have a1 : (fCons (fCall f__law_draw (fAI 0 (fAV (fLenB (fPl 2)) fANil))) fNil) [some p, x1, some (stR true xs), some (stR true ys)] = .ok [.int d] [some p', x1, some (stR true xs), some (stR true ys)] := by
    simp -implicitDefEqProofs only [ev_ok, ev_exc, ev_ret, ev_lift, ev_pl, ev_plK, ev_rd, ev_rdPl, ev_rdK, ev_ix, ev_ixK, ev_deeper, ev_dpK, ev_f2, ev_f2K1, ev_f2K2, ev_f1, ev_f1K, ev_cC, ev_cCK1, ev_cCK2, ev_vC, ev_tst, ev_tstK, ev_and, ev_andT, ev_andF, ev_or, ev_orT, ev_orF, ev_not, ev_notK, ev_if, ev_ifT, ev_ifF, ev_nil, ev_cons, ev_consK1, ev_consK2, ev_callL, ev_callLK, ev_itL, ev_itLK, ev_it, ev_itK, ev_anil, ev_av, ev_avK1, ev_avK2, ev_ai, ev_aiJ, ev_aiK, ev_call, ev_callAR, ev_callK, ev_coR, ev_coE, ga_nil, ga_v, ga_i, ga_iK, ga_K, sc_nil, sc_v, sc_i, ev_seq, ev_seqN, ev_seqR, ev_seqE, ev_next, sb_ok, sb_exc, ev_sb, ev_sret, ev_retK, ev_expr, ev_nxK, ev_sif, ev_sifT, ev_sifF, ev_gu, ev_asg, ev_asgK, ev_set, ev_par, ev_parK, ev_gcK, ev_gc, ev_gn, ev_gtup, ev_gix, ev_gixK, ev_chg, ev_chK, ev_mv, ev_mvK, ev_lenB, ev_lenBK, ev_lbK, ev_emp, ev_empK, ev_epK, ev_sl, ev_slK0, ev_slK1, ev_slK2, ev_pI, ev_pIK, ev_pnil, ev_outN, ev_outR, ev_outE, ou_nil, ou_cons, xC, xVar, xBin, xNeg, atomV, get_nil, get_one, set_nil, set_one, pown_nil, pown_one, Option.isSome_some, Bool.and_self, Bool.and_true, Bool.true_and, Option.getD_some, Option.getD_none, List.getElem?_cons_zero, List.getElem?_cons_succ, List.set_cons_zero, List.set_cons_succ, List.nil_append, List.length_cons, List.length_nil, gNe, Option.map_some, if_true, if_false, Bool.not_true, Bool.not_false, Option.bind_some, List.isEmpty_nil, T.fz, NK.m, NK.fz, ev_lend, ev_lendB, ev_lendBK, ev_lendE, ev_lendBE, fzE_nil, fzE_none, fzE_some, ev_bNv, ev_bNvK, ↓c]
  have b1 := ev_bmV (kd := isLst) (g := mPopAt) (j := 2) (ρ := [some p, x1, some (stR true xs), some (stR true ys)]) rfl rfl a1 rfl (pop_strs d0 d1 h1)
  have a2 : (fCons (fBmV isLst mPopAt 2 (fCons (fCall f__law_draw (fAI 0 (fAV (fLenB (fPl 2)) fANil))) fNil)) fNil) [some p, x1, some (stR true xs), some (stR true ys)] = .ok [.str (xs.getD d.toNat Str.empty)] [some p', x1, some (stR true (xs.eraseIdx d.toNat)), some (stR true ys)] := by
    simp -implicitDefEqProofs only [ev_ok, ev_exc, ev_ret, ev_lift, ev_pl, ev_plK, ev_rd, ev_rdPl, ev_rdK, ev_ix, ev_ixK, ev_deeper, ev_dpK, ev_f2, ev_f2K1, ev_f2K2, ev_f1, ev_f1K, ev_cC, ev_cCK1, ev_cCK2, ev_vC, ev_tst, ev_tstK, ev_and, ev_andT, ev_andF, ev_or, ev_orT, ev_orF, ev_not, ev_notK, ev_if, ev_ifT, ev_ifF, ev_nil, ev_cons, ev_consK1, ev_consK2, ev_callL, ev_callLK, ev_itL, ev_itLK, ev_it, ev_itK, ev_anil, ev_av, ev_avK1, ev_avK2, ev_ai, ev_aiJ, ev_aiK, ev_call, ev_callAR, ev_callK, ev_coR, ev_coE, ga_nil, ga_v, ga_i, ga_iK, ga_K, sc_nil, sc_v, sc_i, ev_seq, ev_seqN, ev_seqR, ev_seqE, ev_next, sb_ok, sb_exc, ev_sb, ev_sret, ev_retK, ev_expr, ev_nxK, ev_sif, ev_sifT, ev_sifF, ev_gu, ev_asg, ev_asgK, ev_set, ev_par, ev_parK, ev_gcK, ev_gc, ev_gn, ev_gtup, ev_gix, ev_gixK, ev_chg, ev_chK, ev_mv, ev_mvK, ev_lenB, ev_lenBK, ev_lbK, ev_emp, ev_empK, ev_epK, ev_sl, ev_slK0, ev_slK1, ev_slK2, ev_pI, ev_pIK, ev_pnil, ev_outN, ev_outR, ev_outE, ou_nil, ou_cons, xC, xVar, xBin, xNeg, atomV, get_nil, get_one, set_nil, set_one, pown_nil, pown_one, Option.isSome_some, Bool.and_self, Bool.and_true, Bool.true_and, Option.getD_some, Option.getD_none, List.getElem?_cons_zero, List.getElem?_cons_succ, List.set_cons_zero, List.set_cons_succ, List.nil_append, List.length_cons, List.length_nil, gNe, Option.map_some, if_true, if_false, Bool.not_true, Bool.not_false, Option.bind_some, List.isEmpty_nil, T.fz, NK.m, NK.fz, ev_lend, ev_lendB, ev_lendBK, ev_lendE, ev_lendBE, fzE_nil, fzE_none, fzE_some, ev_bNv, ev_bNvK, ↓b1]
  have g2 : mAppend (stR true ys) [.str (xs.getD d.toNat Str.empty)] = some (.non, stR true (ys ++ [xs.getD d.toNat Str.empty])) := by
    unfold mAppend
    dsimp only
    rw [if_pos (by rw [List.length_map, sizeLine_eq]; omega)]
    show some (T.non, T.nd (.lst true) (List.map T.str ys ++ List.map T.str [xs.getD d.toNat Str.empty])) = _
    rw [← List.map_append]
  have b2 := ev_bmV (kd := isLst) (g := mAppend) (j := 3) (ρ := [some p, x1, some (stR true xs), some (stR true ys)]) rfl rfl a2 rfl g2
  refine ⟨d.toNat, p', by omega, hp', ?_⟩
  unfold l__law_shuffled_1
  rw [ev_expr, b2]
  rfl
theorem shuf_loop : ∀ (n : Nat) (m : Nat) (p : T) (B : Int) (x1 : Option T) (xs ys : List Str), xs.length = n → n < m → PenOk p B → B + n < 1000000 → xs.length + ys.length ≤ 1000 → OkS xs →
    ∃ (p' : T) (zs : List Str), sWhile m (cEmp true (fPl 2)) l__law_shuffled_1 [some p, x1, some (stR true xs), some (stR true ys)] = .nx [some p', x1, some (stR true []), some (stR true zs)] ∧ PenOk p' (B + n) ∧ zs.length = xs.length + ys.length ∧ ∀ z ∈ zs, z ∈ xs ∨ z ∈ ys
  | 0, m, p, B, x1, xs, ys, hn, hm, hp, hB, hl, hs => by
    obtain rfl : xs = [] := List.length_eq_zero_iff.mp hn
    obtain ⟨m', rfl⟩ : ∃ m', m = m' + 1 := ⟨m - 1, by omega⟩
    refine ⟨p, ys, ?_, by simpa using hp, by simp, fun z hz => .inr hz⟩
    exact ev_whF (ρ1 := [some p, x1, some (stR true []), some (stR true ys)]) (by
      have e0 := emp_strs true true [] (fun _ h => nomatch h)
      simp -implicitDefEqProofs only [ev_ok, ev_exc, ev_ret, ev_lift, ev_pl, ev_plK, ev_rd, ev_rdPl, ev_rdK, ev_ix, ev_ixK, ev_deeper, ev_dpK, ev_f2, ev_f2K1, ev_f2K2, ev_f1, ev_f1K, ev_cC, ev_cCK1, ev_cCK2, ev_vC, ev_tst, ev_tstK, ev_and, ev_andT, ev_andF, ev_or, ev_orT, ev_orF, ev_not, ev_notK, ev_if, ev_ifT, ev_ifF, ev_nil, ev_cons, ev_consK1, ev_consK2, ev_callL, ev_callLK, ev_itL, ev_itLK, ev_it, ev_itK, ev_anil, ev_av, ev_avK1, ev_avK2, ev_ai, ev_aiJ, ev_aiK, ev_call, ev_callAR, ev_callK, ev_coR, ev_coE, ga_nil, ga_v, ga_i, ga_iK, ga_K, sc_nil, sc_v, sc_i, ev_seq, ev_seqN, ev_seqR, ev_seqE, ev_next, sb_ok, sb_exc, ev_sb, ev_sret, ev_retK, ev_expr, ev_nxK, ev_sif, ev_sifT, ev_sifF, ev_gu, ev_asg, ev_asgK, ev_set, ev_par, ev_parK, ev_gcK, ev_gc, ev_gn, ev_gtup, ev_gix, ev_gixK, ev_chg, ev_chK, ev_mv, ev_mvK, ev_lenB, ev_lenBK, ev_lbK, ev_emp, ev_empK, ev_epK, ev_sl, ev_slK0, ev_slK1, ev_slK2, ev_pI, ev_pIK, ev_pnil, ev_outN, ev_outR, ev_outE, ou_nil, ou_cons, xC, xVar, xBin, xNeg, atomV, get_nil, get_one, set_nil, set_one, pown_nil, pown_one, Option.isSome_some, Bool.and_self, Bool.and_true, Bool.true_and, Option.getD_some, Option.getD_none, List.getElem?_cons_zero, List.getElem?_cons_succ, List.set_cons_zero, List.set_cons_succ, List.nil_append, List.length_cons, List.length_nil, gNe, Option.map_some, if_true, if_false, Bool.not_true, Bool.not_false, Option.bind_some, List.isEmpty_nil, T.fz, NK.m, NK.fz, ev_lend, ev_lendB, ev_lendBK, ev_lendE, ev_lendBE, fzE_nil, fzE_none, fzE_some, ev_bNv, ev_bNvK, e0])
  | n + 1, m, p, B, x1, xs, ys, hn, hm, hp, hB, hl, hs => by
    obtain ⟨m', rfl⟩ : ∃ m', m = m' + 1 := ⟨m - 1, by omega⟩
    obtain ⟨d, p', hd, hp', e⟩ := shuf_step (x1 := x1) (xs := xs) (ys := ys) hp (by omega) (by omega) (by omega) (by omega)
    have le : (xs.eraseIdx d).length = n := by rw [List.length_eraseIdx_of_lt hd]; omega
    obtain ⟨p2, zs, e2, hp2, hz, hm2⟩ := shuf_loop n m' p' (B + 1) x1 (xs.eraseIdx d) (ys ++ [xs.getD d Str.empty]) le (by omega) hp' (by omega) (by rw [le, List.length_append, List.length_singleton]; omega) (fun z hz => hs z (List.mem_of_mem_eraseIdx hz))
    refine ⟨p2, zs, ?_, by have := hp2; rwa [show B + 1 + (n : Int) = B + ((n + 1 : Nat) : Int) by omega] at this, by rw [hz, le, List.length_append, List.length_singleton]; omega, fun z hz => ?_⟩
    · have hc : (cEmp true (fPl 2)) [some p, x1, some (stR true xs), some (stR true ys)] = .ok true [some p, x1, some (stR true xs), some (stR true ys)] := by
        have hx : xs.isEmpty = false := by
          cases xs with
          | nil => simp at hn
          | cons a t => rfl
        have e0 := emp_strs true true xs hs
        simp -implicitDefEqProofs only [ev_ok, ev_exc, ev_ret, ev_lift, ev_pl, ev_plK, ev_rd, ev_rdPl, ev_rdK, ev_ix, ev_ixK, ev_deeper, ev_dpK, ev_f2, ev_f2K1, ev_f2K2, ev_f1, ev_f1K, ev_cC, ev_cCK1, ev_cCK2, ev_vC, ev_tst, ev_tstK, ev_and, ev_andT, ev_andF, ev_or, ev_orT, ev_orF, ev_not, ev_notK, ev_if, ev_ifT, ev_ifF, ev_nil, ev_cons, ev_consK1, ev_consK2, ev_callL, ev_callLK, ev_itL, ev_itLK, ev_it, ev_itK, ev_anil, ev_av, ev_avK1, ev_avK2, ev_ai, ev_aiJ, ev_aiK, ev_call, ev_callAR, ev_callK, ev_coR, ev_coE, ga_nil, ga_v, ga_i, ga_iK, ga_K, sc_nil, sc_v, sc_i, ev_seq, ev_seqN, ev_seqR, ev_seqE, ev_next, sb_ok, sb_exc, ev_sb, ev_sret, ev_retK, ev_expr, ev_nxK, ev_sif, ev_sifT, ev_sifF, ev_gu, ev_asg, ev_asgK, ev_set, ev_par, ev_parK, ev_gcK, ev_gc, ev_gn, ev_gtup, ev_gix, ev_gixK, ev_chg, ev_chK, ev_mv, ev_mvK, ev_lenB, ev_lenBK, ev_lbK, ev_emp, ev_empK, ev_epK, ev_sl, ev_slK0, ev_slK1, ev_slK2, ev_pI, ev_pIK, ev_pnil, ev_outN, ev_outR, ev_outE, ou_nil, ou_cons, xC, xVar, xBin, xNeg, atomV, get_nil, get_one, set_nil, set_one, pown_nil, pown_one, Option.isSome_some, Bool.and_self, Bool.and_true, Bool.true_and, Option.getD_some, Option.getD_none, List.getElem?_cons_zero, List.getElem?_cons_succ, List.set_cons_zero, List.set_cons_succ, List.nil_append, List.length_cons, List.length_nil, gNe, Option.map_some, if_true, if_false, Bool.not_true, Bool.not_false, Option.bind_some, List.isEmpty_nil, T.fz, NK.m, NK.fz, ev_lend, ev_lendB, ev_lendBK, ev_lendE, ev_lendBE, fzE_nil, fzE_none, fzE_some, ev_bNv, ev_bNvK, e0, hx]
      rw [ev_whT hc e, e2]
    · rcases hm2 z hz with q | q
      · exact .inl (List.mem_of_mem_eraseIdx q)
      · rcases List.mem_append.mp q with q | q
        · exact .inr q
        · refine .inl ?_
          rw [List.mem_singleton.mp q, List.getD_eq_getElem?_getD, List.getElem?_eq_getElem hd]
          exact List.getElem_mem hd
theorem shuf_ok {p : T} {B : Int} {m : Bool} {xs : List Str} (hp : PenOk p B) (hB : B + 1000 < 1000000) (h1 : xs.length ≤ 1000) (hs : OkS xs) :
    ∃ (zs : List Str) (p' t : T), f__law_shuffled [p, stR m xs] = .ret (stR true zs) [p', t] ∧ PenOk p' (B + xs.length) ∧ zs.length = xs.length ∧ ∀ z ∈ zs, z ∈ xs := by
  have hev : f__law_shuffled [p, stR m xs] = outK [true, true] (b__law_shuffled [some p, some (stR m xs), none, none]) := run_ev rfl rfl
  rw [hev]
  clear hev
  unfold b__law_shuffled
  have r1 : fRd (fPl 1) [some p, some (stR m xs), none, none] = .ok (stR false xs) [some p, some (stR false xs), none, none] := by
    simp only [ev_rd, ev_pl, ev_plK, ev_ok, ev_rdPl, ev_rdK, List.getElem?_cons_succ, List.getElem?_cons_zero, get_nil, set_nil, List.set_cons_succ, List.set_cons_zero]
    rw [fz_strs]
  have gl : gList [stR false xs] = some (stR true xs) := by
    first
      | rfl
      | (unfold gList; rw [fzL_strs])
      | (show some (T.nd (.lst true) (T.fzL (xs.map T.str))) = _; rw [fzL_strs])
  have ge : gLstL [] = some (stR true []) := if_pos (by rw [sizeLine_eq]; exact Nat.zero_le _)
  have e1 : (sPar (fCons (fCallL gList (fCons (fRd (fPl 1)) fNil)) (fCons (fCallL gLstL fNil) fNil)) (gsCons (gSet 2) (gsCons (gSet 3) gsNil))) [some p, some (stR m xs), none, none] = .nx [some p, some (stR false xs), some (stR true xs), some (stR true [])] := by
    simp -implicitDefEqProofs only [ev_ok, ev_exc, ev_ret, ev_lift, ev_pl, ev_plK, ev_rd, ev_rdPl, ev_rdK, ev_ix, ev_ixK, ev_deeper, ev_dpK, ev_f2, ev_f2K1, ev_f2K2, ev_f1, ev_f1K, ev_cC, ev_cCK1, ev_cCK2, ev_vC, ev_tst, ev_tstK, ev_and, ev_andT, ev_andF, ev_or, ev_orT, ev_orF, ev_not, ev_notK, ev_if, ev_ifT, ev_ifF, ev_nil, ev_cons, ev_consK1, ev_consK2, ev_callL, ev_callLK, ev_itL, ev_itLK, ev_it, ev_itK, ev_anil, ev_av, ev_avK1, ev_avK2, ev_ai, ev_aiJ, ev_aiK, ev_call, ev_callAR, ev_callK, ev_coR, ev_coE, ga_nil, ga_v, ga_i, ga_iK, ga_K, sc_nil, sc_v, sc_i, ev_seq, ev_seqN, ev_seqR, ev_seqE, ev_next, sb_ok, sb_exc, ev_sb, ev_sret, ev_retK, ev_expr, ev_nxK, ev_sif, ev_sifT, ev_sifF, ev_gu, ev_asg, ev_asgK, ev_set, ev_par, ev_parK, ev_gcK, ev_gc, ev_gn, ev_gtup, ev_gix, ev_gixK, ev_chg, ev_chK, ev_mv, ev_mvK, ev_lenB, ev_lenBK, ev_lbK, ev_emp, ev_empK, ev_epK, ev_sl, ev_slK0, ev_slK1, ev_slK2, ev_pI, ev_pIK, ev_pnil, ev_outN, ev_outR, ev_outE, ou_nil, ou_cons, xC, xVar, xBin, xNeg, atomV, get_nil, get_one, set_nil, set_one, pown_nil, pown_one, Option.isSome_some, Bool.and_self, Bool.and_true, Bool.true_and, Option.getD_some, Option.getD_none, List.getElem?_cons_zero, List.getElem?_cons_succ, List.set_cons_zero, List.set_cons_succ, List.nil_append, List.length_cons, List.length_nil, gNe, Option.map_some, if_true, if_false, Bool.not_true, Bool.not_false, Option.bind_some, List.isEmpty_nil, T.fz, NK.m, NK.fz, ev_lend, ev_lendB, ev_lendBK, ev_lendE, ev_lendBE, fzE_nil, fzE_none, fzE_some, ev_bNv, ev_bNvK, ↓r1, gl, ge]
  obtain ⟨p', zs, e2, hp', hz, hm⟩ := shuf_loop xs.length FU p B (some (stR false xs)) xs [] rfl (by unfold FU; omega) hp (by omega) (by simpa using h1) hs
  refine ⟨zs, p', stR false xs, ?_, hp', by simpa using hz, fun z q => (hm z q).elim id fun q => nomatch q⟩
  rw [ev_seq, e1, ev_seqN, ev_seq, e2, ev_seqN]
  rfl
def names13 : List Str := ["x", "y", "v", "w", "f", "g", "r", "q", "s", "t", "ups", "anyone", "flags"]
def names3 : List Str := ["olden", "z", "abcdefghijkl"]
def names16 : List Str := names13 ++ names3
theorem names_ok {p : T} {B : Int} (hp : PenOk p B) (hB : B + 1000 < 1000000) : ∃ (a b : Str) (p' : T) , f__law_new_names [p, .int 2] = .ret (stR true [a, b]) [p', .int 2] ∧ PenOk p' (B + 16) ∧ a ∈ names16 ∧ b ∈ names16 := by
  have hev : f__law_new_names [p, .int 2] = outK [true, true] (b__law_new_names [some p, some (.int 2), none]) := run_ev rfl rfl
  rw [hev]
  clear hev
  obtain ⟨zs, p', t, e, hp', hl, hm⟩ := shuf_ok (m := true) (xs := names16) hp hB (by decide) (by unfold OkS; decide +kernel)
  have l13 : ∀ ts : List T, ts.length ≤ 1000 → gLstL ts = some (.nd (.lst true) ts) := fun ts h => if_pos (by rw [sizeLine_eq]; omega)
  match zs, hl, hm, e with
  | a :: b :: zs, hl, hm, e =>
    refine ⟨a, b, p', ?_, hp', hm a (by simp), hm b (by simp)⟩
    have e1 : (sAsg (fCallL gLstL (fCons (M.ret (.str "x")) (fCons (M.ret (.str "y")) (fCons (M.ret (.str "v")) (fCons (M.ret (.str "w")) (fCons (M.ret (.str "f")) (fCons (M.ret (.str "g")) (fCons (M.ret (.str "r")) (fCons (M.ret (.str "q")) (fCons (M.ret (.str "s")) (fCons (M.ret (.str "t")) (fCons (M.ret (.str "ups")) (fCons (M.ret (.str "anyone")) (fCons (M.ret (.str "flags")) fNil)))))))))))))) (gSet 2)) [some p, some (.int 2), none] = .nx [some p, some (.int 2), some (stR true names13)] := by
      simp -implicitDefEqProofs only [ev_ok, ev_exc, ev_ret, ev_lift, ev_pl, ev_plK, ev_rd, ev_rdPl, ev_rdK, ev_ix, ev_ixK, ev_deeper, ev_dpK, ev_f2, ev_f2K1, ev_f2K2, ev_f1, ev_f1K, ev_cC, ev_cCK1, ev_cCK2, ev_vC, ev_tst, ev_tstK, ev_and, ev_andT, ev_andF, ev_or, ev_orT, ev_orF, ev_not, ev_notK, ev_if, ev_ifT, ev_ifF, ev_nil, ev_cons, ev_consK1, ev_consK2, ev_callL, ev_callLK, ev_itL, ev_itLK, ev_it, ev_itK, ev_anil, ev_av, ev_avK1, ev_avK2, ev_ai, ev_aiJ, ev_aiK, ev_call, ev_callAR, ev_callK, ev_coR, ev_coE, ga_nil, ga_v, ga_i, ga_iK, ga_K, sc_nil, sc_v, sc_i, ev_seq, ev_seqN, ev_seqR, ev_seqE, ev_next, sb_ok, sb_exc, ev_sb, ev_sret, ev_retK, ev_expr, ev_nxK, ev_sif, ev_sifT, ev_sifF, ev_gu, ev_asg, ev_asgK, ev_set, ev_par, ev_parK, ev_gcK, ev_gc, ev_gn, ev_gtup, ev_gix, ev_gixK, ev_chg, ev_chK, ev_mv, ev_mvK, ev_lenB, ev_lenBK, ev_lbK, ev_emp, ev_empK, ev_epK, ev_sl, ev_slK0, ev_slK1, ev_slK2, ev_pI, ev_pIK, ev_pnil, ev_outN, ev_outR, ev_outE, ou_nil, ou_cons, xC, xVar, xBin, xNeg, atomV, get_nil, get_one, set_nil, set_one, pown_nil, pown_one, Option.isSome_some, Bool.and_self, Bool.and_true, Bool.true_and, Option.getD_some, Option.getD_none, List.getElem?_cons_zero, List.getElem?_cons_succ, List.set_cons_zero, List.set_cons_succ, List.nil_append, List.length_cons, List.length_nil, gNe, Option.map_some, if_true, if_false, Bool.not_true, Bool.not_false, Option.bind_some, List.isEmpty_nil, T.fz, NK.m, NK.fz, ev_lend, ev_lendB, ev_lendBK, ev_lendE, ev_lendBE, fzE_nil, fzE_none, fzE_some, ev_bNv, ev_bNvK, l13 [.str "x", .str "y", .str "v", .str "w", .str "f", .str "g", .str "r", .str "q", .str "s", .str "t", .str "ups", .str "anyone", .str "flags"] (by decide)]
      rfl
    have r1 : fRd (fPl 2) [some p, some (.int 2), some (stR true names13)] = .ok (stR false names13) [some p, some (.int 2), some (stR false names13)] := rfl
    have e2 : (f2 gAdd (fRd (fPl 2)) (fCallL gLstL (fCons (M.ret (.str "olden")) (fCons (M.ret (.str "z")) (fCons (M.ret (.str "abcdefghijkl")) fNil))))) [some p, some (.int 2), some (stR true names13)] = .ok (stR true names16) [some p, some (.int 2), some (stR false names13)] := by
      have ga : gAdd (stR false names13) (.nd (.lst true) [.str "olden", .str "z", .str "abcdefghijkl"]) = some (stR true names16) := by rfl
      simp -implicitDefEqProofs only [ev_ok, ev_exc, ev_ret, ev_lift, ev_pl, ev_plK, ev_rd, ev_rdPl, ev_rdK, ev_ix, ev_ixK, ev_deeper, ev_dpK, ev_f2, ev_f2K1, ev_f2K2, ev_f1, ev_f1K, ev_cC, ev_cCK1, ev_cCK2, ev_vC, ev_tst, ev_tstK, ev_and, ev_andT, ev_andF, ev_or, ev_orT, ev_orF, ev_not, ev_notK, ev_if, ev_ifT, ev_ifF, ev_nil, ev_cons, ev_consK1, ev_consK2, ev_callL, ev_callLK, ev_itL, ev_itLK, ev_it, ev_itK, ev_anil, ev_av, ev_avK1, ev_avK2, ev_ai, ev_aiJ, ev_aiK, ev_call, ev_callAR, ev_callK, ev_coR, ev_coE, ga_nil, ga_v, ga_i, ga_iK, ga_K, sc_nil, sc_v, sc_i, ev_seq, ev_seqN, ev_seqR, ev_seqE, ev_next, sb_ok, sb_exc, ev_sb, ev_sret, ev_retK, ev_expr, ev_nxK, ev_sif, ev_sifT, ev_sifF, ev_gu, ev_asg, ev_asgK, ev_set, ev_par, ev_parK, ev_gcK, ev_gc, ev_gn, ev_gtup, ev_gix, ev_gixK, ev_chg, ev_chK, ev_mv, ev_mvK, ev_lenB, ev_lenBK, ev_lbK, ev_emp, ev_empK, ev_epK, ev_sl, ev_slK0, ev_slK1, ev_slK2, ev_pI, ev_pIK, ev_pnil, ev_outN, ev_outR, ev_outE, ou_nil, ou_cons, xC, xVar, xBin, xNeg, atomV, get_nil, get_one, set_nil, set_one, pown_nil, pown_one, Option.isSome_some, Bool.and_self, Bool.and_true, Bool.true_and, Option.getD_some, Option.getD_none, List.getElem?_cons_zero, List.getElem?_cons_succ, List.set_cons_zero, List.set_cons_succ, List.nil_append, List.length_cons, List.length_nil, gNe, Option.map_some, if_true, if_false, Bool.not_true, Bool.not_false, Option.bind_some, List.isEmpty_nil, T.fz, NK.m, NK.fz, ev_lend, ev_lendB, ev_lendBK, ev_lendE, ev_lendBE, fzE_nil, fzE_none, fzE_some, ev_bNv, ev_bNvK, ↓r1, l13 [.str "olden", .str "z", .str "abcdefghijkl"] (by decide), ga]
    have c := pen_call2 (j := 0) (ρ := [some p, some (.int 2), some (stR true names13)]) rfl e2 rfl e
    have c2 : (fCall f__law_shuffled (fAI 0 (fAV (f2 gAdd (fRd (fPl 2)) (fCallL gLstL (fCons (M.ret (.str "olden")) (fCons (M.ret (.str "z")) (fCons (M.ret (.str "abcdefghijkl")) fNil))))) fANil))) [some p, some (.int 2), some (stR true names13)] = .ok (stR true (a :: b :: zs)) [some p', some (.int 2), some (stR false names13)] := c
    have g : gSl (stR true (a :: b :: zs)) none (some 2) = some (stR true [a, b]) := by
      show some (T.nd (.lst true) (cutT ((a :: b :: zs).map T.str) none (some 2))) = _
      unfold cutT
      simp
      first | rfl | skip
    unfold b__law_new_names
    rw [ev_seq, e1, ev_seqN]
    simp -implicitDefEqProofs only [ev_ok, ev_exc, ev_ret, ev_lift, ev_pl, ev_plK, ev_rd, ev_rdPl, ev_rdK, ev_ix, ev_ixK, ev_deeper, ev_dpK, ev_f2, ev_f2K1, ev_f2K2, ev_f1, ev_f1K, ev_cC, ev_cCK1, ev_cCK2, ev_vC, ev_tst, ev_tstK, ev_and, ev_andT, ev_andF, ev_or, ev_orT, ev_orF, ev_not, ev_notK, ev_if, ev_ifT, ev_ifF, ev_nil, ev_cons, ev_consK1, ev_consK2, ev_callL, ev_callLK, ev_itL, ev_itLK, ev_it, ev_itK, ev_anil, ev_av, ev_avK1, ev_avK2, ev_ai, ev_aiJ, ev_aiK, ev_call, ev_callAR, ev_callK, ev_coR, ev_coE, ga_nil, ga_v, ga_i, ga_iK, ga_K, sc_nil, sc_v, sc_i, ev_seq, ev_seqN, ev_seqR, ev_seqE, ev_next, sb_ok, sb_exc, ev_sb, ev_sret, ev_retK, ev_expr, ev_nxK, ev_sif, ev_sifT, ev_sifF, ev_gu, ev_asg, ev_asgK, ev_set, ev_par, ev_parK, ev_gcK, ev_gc, ev_gn, ev_gtup, ev_gix, ev_gixK, ev_chg, ev_chK, ev_mv, ev_mvK, ev_lenB, ev_lenBK, ev_lbK, ev_emp, ev_empK, ev_epK, ev_sl, ev_slK0, ev_slK1, ev_slK2, ev_pI, ev_pIK, ev_pnil, ev_outN, ev_outR, ev_outE, ou_nil, ou_cons, xC, xVar, xBin, xNeg, atomV, get_nil, get_one, set_nil, set_one, pown_nil, pown_one, Option.isSome_some, Bool.and_self, Bool.and_true, Bool.true_and, Option.getD_some, Option.getD_none, List.getElem?_cons_zero, List.getElem?_cons_succ, List.set_cons_zero, List.set_cons_succ, List.nil_append, List.length_cons, List.length_nil, gNe, Option.map_some, if_true, if_false, Bool.not_true, Bool.not_false, Option.bind_some, List.isEmpty_nil, T.fz, NK.m, NK.fz, ev_lend, ev_lendB, ev_lendBK, ev_lendE, ev_lendBE, fzE_nil, fzE_none, fzE_some, ev_bNv, ev_bNvK, ↓c2, g]
  | [_], hl, _, _ => cases hl
  | [], hl, _, _ => cases hl
theorem ok16 : OkS names16 := by unfold OkS; decide +kernel
end TrLaw
end

section
set_option Elab.async false
set_option linter.all false
set_option autoImplicit false
set_option maxRecDepth 100000
namespace TrLaw
open Tr PySem PySem.Spec PyProof.Rows L2
def eE (k : Nat) (f : Str) (t : T) : T := .nd (.err k [f]) [t]
theorem fz_eE (k : Nat) (f : Str) (t : T) : T.fz (eE k f t) = eE k f t := rfl
theorem plain_ok : f__law_plain_right [] = .ret (.bl true) [] := by kernel_rfl
theorem one_ok {k : Nat} (hk : k ∈ mkN) (f : Str) (t : T) : f__law_is_one [eE k f t, .bl true] = .ret (.bl true) [eE k f t, .bl true] := by
  simp only [mkN, List.mem_cons, List.not_mem_nil, or_false] at hk
  rcases hk with rfl | rfl | rfl | rfl | rfl | rfl | rfl | rfl | rfl | rfl | rfl <;> kernel_rfl
def rowE (k : Nat) (f : Str) (t : T) : T := .nd .tup [eE k f t, t, t, .bl true]
def rowsE (n : Int) (s : Str) : List T := [rowE 1 "line" (.int n), rowE 8 "line" (.int n), rowE 5 "index" (.int n), rowE 3 "name" (.str s), rowE 6 "name" (.str s), rowE 10 "name" (.str s)]
theorem mk_int {k : Nat} {f : Str} {ok : T → Bool} {n : Int} (h : ok (.int n) = true) : gErr1 k f ok (.int n) = some (eE k f (.int n)) := by
  unfold gErr1
  rw [h]
  rfl
theorem fielded_ok {n : Int} {s : Str} (h : n.natAbs.log2 < 1920) : f__law_fielded [.int n, .str s] = .ret (.nd (.lst true) (rowsE n s)) [.int n, .str s] := by
  have hev : f__law_fielded [.int n, .str s] = outK [true, true] (b__law_fielded [some (.int n), some (.str s), none, none, none, none, none, none, none]) := run_ev rfl rfl
  rw [hev]
  clear hev
  have m1 : gErr1 1 "line" ok_BadWorld (.int n) = some (eE 1 "line" (.int n)) := mk_int (decide_eq_true h)
  have m2 : gErr1 8 "line" ok_BadPlan (.int n) = some (eE 8 "line" (.int n)) := mk_int (decide_eq_true h)
  have m3 : gErr1 5 "index" ok_BadValues (.int n) = some (eE 5 "index" (.int n)) := mk_int (decide_eq_true h)
  have e1 : (sPar (fCons (f1 (gErr1 1 "line" ok_BadWorld) (fRd (fPl 0))) (fCons (f1 (gErr1 8 "line" ok_BadPlan) (fRd (fPl 0))) (fCons (f1 (gErr1 5 "index" ok_BadValues) (fRd (fPl 0))) fNil))) (gsCons (gSet 2) (gsCons (gSet 3) (gsCons (gSet 4) gsNil)))) [some (.int n), some (.str s), none, none, none, none, none, none, none] = .nx [some (.int n), some (.str s), some (eE 1 "line" (.int n)), some (eE 8 "line" (.int n)), some (eE 5 "index" (.int n)), none, none, none, none] := by
    simp -implicitDefEqProofs only [ev_ok, ev_exc, ev_ret, ev_lift, ev_pl, ev_plK, ev_rd, ev_rdPl, ev_rdK, ev_ix, ev_ixK, ev_deeper, ev_dpK, ev_f2, ev_f2K1, ev_f2K2, ev_f1, ev_f1K, ev_cC, ev_cCK1, ev_cCK2, ev_vC, ev_tst, ev_tstK, ev_and, ev_andT, ev_andF, ev_or, ev_orT, ev_orF, ev_not, ev_notK, ev_if, ev_ifT, ev_ifF, ev_nil, ev_cons, ev_consK1, ev_consK2, ev_callL, ev_callLK, ev_itL, ev_itLK, ev_it, ev_itK, ev_anil, ev_av, ev_avK1, ev_avK2, ev_ai, ev_aiJ, ev_aiK, ev_call, ev_callAR, ev_callK, ev_coR, ev_coE, ga_nil, ga_v, ga_i, ga_iK, ga_K, sc_nil, sc_v, sc_i, ev_seq, ev_seqN, ev_seqR, ev_seqE, ev_next, sb_ok, sb_exc, ev_sb, ev_sret, ev_retK, ev_expr, ev_nxK, ev_sif, ev_sifT, ev_sifF, ev_gu, ev_asg, ev_asgK, ev_set, ev_par, ev_parK, ev_gcK, ev_gc, ev_gn, ev_gtup, ev_gix, ev_gixK, ev_chg, ev_chK, ev_mv, ev_mvK, ev_lenB, ev_lenBK, ev_lbK, ev_emp, ev_empK, ev_epK, ev_sl, ev_slK0, ev_slK1, ev_slK2, ev_pI, ev_pIK, ev_pnil, ev_outN, ev_outR, ev_outE, ou_nil, ou_cons, xC, xVar, xBin, xNeg, atomV, get_nil, get_one, set_nil, set_one, pown_nil, pown_one, Option.isSome_some, Bool.and_self, Bool.and_true, Bool.true_and, Option.getD_some, Option.getD_none, List.getElem?_cons_zero, List.getElem?_cons_succ, List.set_cons_zero, List.set_cons_succ, List.nil_append, List.length_cons, List.length_nil, gNe, Option.map_some, if_true, if_false, Bool.not_true, Bool.not_false, Option.bind_some, List.isEmpty_nil, T.fz, NK.m, NK.fz, ev_lend, ev_lendB, ev_lendBK, ev_lendE, ev_lendBE, fzE_nil, fzE_none, fzE_some, ev_bNv, ev_bNvK, m1, m2, m3]
  unfold b__law_fielded
  rw [ev_seq, e1, ev_seqN]
  kernel_rfl
theorem law1_ok {k : Nat} (hk : k ∈ mkN) {f z : Str} {t : T} (hr : gReprA [t] = some (.str z)) (hz : T.fz t = t) (x0 x1 x2 x3 x4 x5 x6 x7 x8 x13 x14 : Option T) :
    l_law_1 [x0, x1, x2, x3, x4, x5, x6, x7, x8, some (eE k f t), some t, some t, some (.bl true), x13, x14] = .nx [x0, x1, x2, x3, x4, x5, x6, x7, x8, some (eE k f t), some t, some t, some (.bl true), x13, x14] := by
  have o := one_ok hk f t
  have n1 : gNeS (.str z) (.str z) = some false := by
    show some (!decide (z = z)) = _
    simp
  unfold l_law_1
  simp -implicitDefEqProofs only [ev_ok, ev_exc, ev_ret, ev_lift, ev_pl, ev_plK, ev_rd, ev_rdPl, ev_rdK, ev_ix, ev_ixK, ev_deeper, ev_dpK, ev_f2, ev_f2K1, ev_f2K2, ev_f1, ev_f1K, ev_cC, ev_cCK1, ev_cCK2, ev_vC, ev_tst, ev_tstK, ev_and, ev_andT, ev_andF, ev_or, ev_orT, ev_orF, ev_not, ev_notK, ev_if, ev_ifT, ev_ifF, ev_nil, ev_cons, ev_consK1, ev_consK2, ev_callL, ev_callLK, ev_itL, ev_itLK, ev_it, ev_itK, ev_anil, ev_av, ev_avK1, ev_avK2, ev_ai, ev_aiJ, ev_aiK, ev_call, ev_callAR, ev_callK, ev_coR, ev_coE, ga_nil, ga_v, ga_i, ga_iK, ga_K, sc_nil, sc_v, sc_i, ev_seq, ev_seqN, ev_seqR, ev_seqE, ev_next, sb_ok, sb_exc, ev_sb, ev_sret, ev_retK, ev_expr, ev_nxK, ev_sif, ev_sifT, ev_sifF, ev_gu, ev_asg, ev_asgK, ev_set, ev_par, ev_parK, ev_gcK, ev_gc, ev_gn, ev_gtup, ev_gix, ev_gixK, ev_chg, ev_chK, ev_mv, ev_mvK, ev_lenB, ev_lenBK, ev_lbK, ev_emp, ev_empK, ev_epK, ev_sl, ev_slK0, ev_slK1, ev_slK2, ev_pI, ev_pIK, ev_pnil, ev_outN, ev_outR, ev_outE, ou_nil, ou_cons, xC, xVar, xBin, xNeg, atomV, get_nil, get_one, set_nil, set_one, pown_nil, pown_one, Option.isSome_some, Bool.and_self, Bool.and_true, Bool.true_and, Option.getD_some, Option.getD_none, List.getElem?_cons_zero, List.getElem?_cons_succ, List.set_cons_zero, List.set_cons_succ, List.nil_append, List.length_cons, List.length_nil, gNe, Option.map_some, if_true, if_false, Bool.not_true, Bool.not_false, Option.bind_some, List.isEmpty_nil, T.fz, NK.m, NK.fz, ev_lend, ev_lendB, ev_lendBK, ev_lendE, ev_lendBE, fzE_nil, fzE_none, fzE_some, ev_bNv, ev_bNvK, fz_eE, hz, hr, n1, o]
def InT (n : Int) (s : Str) (t : T) : Prop := t = .int n ∨ t = .str s
theorem reprN {n : Int} {s : Str} {t : T} (h : InT n s t) (hn : n.natAbs.log2 < 1920) (hs : (reprText s).length ≤ sizeLine) : (∃ z, gReprA [t] = some (.str z)) ∧ T.fz t = t := by
  rcases h with rfl | rfl
  · exact ⟨⟨toString n, if_pos hn⟩, rfl⟩
  · exact ⟨⟨reprText s, if_pos hs⟩, rfl⟩
theorem rows_at (n : Int) (s : Str) {j : Nat} (h : j < 6) : ∃ k f t, (rowsE n s)[j]? = some (rowE k f t) ∧ k ∈ mkN ∧ InT n s t := by
  match j, h with
  | 0, _ => exact ⟨1, "line", .int n, rfl, by decide, .inl rfl⟩
  | 1, _ => exact ⟨8, "line", .int n, rfl, by decide, .inl rfl⟩
  | 2, _ => exact ⟨5, "index", .int n, rfl, by decide, .inl rfl⟩
  | 3, _ => exact ⟨3, "name", .str s, rfl, by decide, .inr rfl⟩
  | 4, _ => exact ⟨6, "name", .str s, rfl, by decide, .inr rfl⟩
  | 5, _ => exact ⟨10, "name", .str s, rfl, by decide, .inr rfl⟩
end TrLaw
end

section
set_option Elab.async false
set_option linter.all false
set_option autoImplicit false
set_option maxRecDepth 100000
namespace TrLaw
open Tr PySem PySem.Spec PyProof.Rows L2
theorem rd_row {i j : Nat} {n : Int} {s : Str} {k : Nat} {f : Str} {t : T} {g : Tr.Env → Option T} {ρ : Tr.Env} (hj : j < 6) (he : (rowsE n s)[j]? = some (rowE k f t)) (hr : ρ[i]? = some (some (.nd (.lst true) (rowsE n s)))) (hg : g ρ = some (.int (j : Int))) : fRd (fIx g (fPl i)) ρ = .ok (rowE k f t) ρ :=
  have hp : posIx (.nd (.lst true) (rowsE n s)) (.int (j : Int)) = some j := by
    show ixN (rowsE n s).length (j : Int) = some j
    rw [show (rowsE n s).length = 6 from rfl, ixN_of (by omega) (by omega)]
    simp
  rd_at (ix_at (pl_at hr) hr (get_nil _) hg rfl hp he) hr (get_at (get_nil _) he) rfl
theorem law2_ok {n n2 : Int} {s s2 : Str} (hn : n.natAbs.log2 < 1920) (hn2 : n2.natAbs.log2 < 1920) (hs : (reprText s).length ≤ sizeLine) (hs2 : (reprText s2).length ≤ sizeLine) {j : Nat} (hj : j < 6) (x0 x1 x2 x3 x4 x5 x9 x10 x11 x12 x13 x14 : Option T) :
    ∃ y9 y10 y11 y12, l_law_2 [x0, x1, x2, x3, x4, x5, some (.nd (.lst true) (rowsE n s)), some (.nd (.lst true) (rowsE n2 s2)), some (.int (j : Int)), x9, x10, x11, x12, x13, x14] = .nx [x0, x1, x2, x3, x4, x5, some (.nd (.lst true) (rowsE n s)), some (.nd (.lst true) (rowsE n2 s2)), some (.int (j : Int)), y9, y10, y11, y12, x13, x14] := by
  obtain ⟨k, f, t, h1, hk, ht⟩ := rows_at n s hj
  obtain ⟨k2, f2, t2, h2, hk2, ht2⟩ := rows_at n2 s2 hj
  obtain ⟨⟨z, hz⟩, hf⟩ := reprN ht hn hs
  obtain ⟨⟨z2, hz2⟩, hf2⟩ := reprN ht2 hn2 hs2
  have r1 : fRd (fIx (xVar 8) (fPl 6)) [x0, x1, x2, x3, x4, x5, some (.nd (.lst true) (rowsE n s)), some (.nd (.lst true) (rowsE n2 s2)), some (.int (j : Int)), x9, x10, x11, x12, x13, x14] = .ok (rowE k f t) [x0, x1, x2, x3, x4, x5, some (.nd (.lst true) (rowsE n s)), some (.nd (.lst true) (rowsE n2 s2)), some (.int (j : Int)), x9, x10, x11, x12, x13, x14] := rd_row hj h1 rfl rfl
  have r2 : fRd (fIx (xVar 8) (fPl 7)) [x0, x1, x2, x3, x4, x5, some (.nd (.lst true) (rowsE n s)), some (.nd (.lst true) (rowsE n2 s2)), some (.int (j : Int)), x9, x10, x11, x12, x13, x14] = .ok (rowE k2 f2 t2) [x0, x1, x2, x3, x4, x5, some (.nd (.lst true) (rowsE n s)), some (.nd (.lst true) (rowsE n2 s2)), some (.int (j : Int)), x9, x10, x11, x12, x13, x14] := rd_row hj h2 rfl rfl
  have gt : gTupL [rowE k f t, rowE k2 f2 t2] = some (.nd .tup [rowE k f t, rowE k2 f2 t2]) := rfl
  have an : anyItems (.nd .tup [rowE k f t, rowE k2 f2 t2]) = some [rowE k f t, rowE k2 f2 t2] := rfl
  have it : (fItems (fCallL gTupL (fCons (fRd (fIx (xVar 8) (fPl 6))) (fCons (fRd (fIx (xVar 8) (fPl 7))) fNil))) anyItems) [x0, x1, x2, x3, x4, x5, some (.nd (.lst true) (rowsE n s)), some (.nd (.lst true) (rowsE n2 s2)), some (.int (j : Int)), x9, x10, x11, x12, x13, x14] = .ok [rowE k f t, rowE k2 f2 t2] [x0, x1, x2, x3, x4, x5, some (.nd (.lst true) (rowsE n s)), some (.nd (.lst true) (rowsE n2 s2)), some (.int (j : Int)), x9, x10, x11, x12, x13, x14] := by
    simp -implicitDefEqProofs only [ev_ok, ev_exc, ev_ret, ev_lift, ev_pl, ev_plK, ev_rd, ev_rdPl, ev_rdK, ev_ix, ev_ixK, ev_deeper, ev_dpK, ev_f2, ev_f2K1, ev_f2K2, ev_f1, ev_f1K, ev_cC, ev_cCK1, ev_cCK2, ev_vC, ev_tst, ev_tstK, ev_and, ev_andT, ev_andF, ev_or, ev_orT, ev_orF, ev_not, ev_notK, ev_if, ev_ifT, ev_ifF, ev_nil, ev_cons, ev_consK1, ev_consK2, ev_callL, ev_callLK, ev_itL, ev_itLK, ev_it, ev_itK, ev_anil, ev_av, ev_avK1, ev_avK2, ev_ai, ev_aiJ, ev_aiK, ev_call, ev_callAR, ev_callK, ev_coR, ev_coE, ga_nil, ga_v, ga_i, ga_iK, ga_K, sc_nil, sc_v, sc_i, ev_seq, ev_seqN, ev_seqR, ev_seqE, ev_next, sb_ok, sb_exc, ev_sb, ev_sret, ev_retK, ev_expr, ev_nxK, ev_sif, ev_sifT, ev_sifF, ev_gu, ev_asg, ev_asgK, ev_set, ev_par, ev_parK, ev_gcK, ev_gc, ev_gn, ev_gtup, ev_gix, ev_gixK, ev_chg, ev_chK, ev_mv, ev_mvK, ev_lenB, ev_lenBK, ev_lbK, ev_emp, ev_empK, ev_epK, ev_sl, ev_slK0, ev_slK1, ev_slK2, ev_pI, ev_pIK, ev_pnil, ev_outN, ev_outR, ev_outE, ou_nil, ou_cons, xC, xVar, xBin, xNeg, atomV, get_nil, get_one, set_nil, set_one, pown_nil, pown_one, Option.isSome_some, Bool.and_self, Bool.and_true, Bool.true_and, Option.getD_some, Option.getD_none, List.getElem?_cons_zero, List.getElem?_cons_succ, List.set_cons_zero, List.set_cons_succ, List.nil_append, List.length_cons, List.length_nil, gNe, Option.map_some, if_true, if_false, Bool.not_true, Bool.not_false, Option.bind_some, List.isEmpty_nil, T.fz, NK.m, NK.fz, ev_lend, ev_lendB, ev_lendBK, ev_lendE, ev_lendBE, fzE_nil, fzE_none, fzE_some, ev_bNv, ev_bNvK, ↓r1, ↓r2, gt, an]
  refine ⟨some (eE k2 f2 t2), some t2, some t2, some (.bl true), ?_⟩
  unfold l_law_2
  rw [ev_for, it, sb_ok]
  rw [for_step (ρ1 := [x0, x1, x2, x3, x4, x5, some (.nd (.lst true) (rowsE n s)), some (.nd (.lst true) (rowsE n2 s2)), some (.int (j : Int)), some (eE k f t), some t, some t, some (.bl true), x13, x14]) (ρ2 := [x0, x1, x2, x3, x4, x5, some (.nd (.lst true) (rowsE n s)), some (.nd (.lst true) (rowsE n2 s2)), some (.int (j : Int)), some (eE k f t), some t, some t, some (.bl true), x13, x14]) rfl (law1_ok hk hz hf _ _ _ _ _ _ _ _ _ _ _)]
  rw [for_step (ρ1 := [x0, x1, x2, x3, x4, x5, some (.nd (.lst true) (rowsE n s)), some (.nd (.lst true) (rowsE n2 s2)), some (.int (j : Int)), some (eE k2 f2 t2), some t2, some t2, some (.bl true), x13, x14]) (ρ2 := [x0, x1, x2, x3, x4, x5, some (.nd (.lst true) (rowsE n s)), some (.nd (.lst true) (rowsE n2 s2)), some (.int (j : Int)), some (eE k2 f2 t2), some t2, some t2, some (.bl true), x13, x14]) rfl (law1_ok hk2 hz2 hf2 _ _ _ _ _ _ _ _ _ _ _)]
  rfl
end TrLaw
end

section
set_option Elab.async false
set_option linter.all false
set_option autoImplicit false
set_option maxRecDepth 100000
namespace TrLaw
open Tr PySem PySem.Spec PyProof.Rows L2
theorem pw60 : gPow (.int 10) (.int 60) = some (.int (10 ^ 60)) := by
  unfold gPow
  dsimp only
  rw [if_pos (by decide)]
  rfl
theorem pw59 : gPow (.int 10) (.int 59) = some (.int (10 ^ 59)) := by
  unfold gPow
  dsimp only
  rw [if_pos (by decide)]
  rfl
theorem lst3 (ts : List T) (h : ts.length ≤ 1000) : gLstL ts = some (.nd (.lst true) ts) := if_pos (by rw [sizeLine_eq]; omega)
theorem log_ok {n : Int} (h1 : -(10 ^ 61) ≤ n) (h2 : n ≤ 10 ^ 61) : n.natAbs.log2 < 1920 := by
  by_cases h0 : n.natAbs = 0
  · rw [h0]; decide
  · refine (Nat.log2_lt h0).mpr ?_
    have h3 : n.natAbs ≤ 10 ^ 61 := by omega
    exact Nat.lt_of_le_of_lt h3 (by decide +kernel)
theorem repr_ok {a : Str} (h : a ∈ names16) : (reprText a).length ≤ sizeLine := by
  have key : ∀ a ∈ names16, (reprText a).length ≤ sizeLine := by decide +kernel
  exact key a h
theorem num_ok {p : T} {B : Int} {j : Nat} (hp : PenOk p B) (hB : B + 10 < 1000000) (hj : j < 3) (x0 x3 x4 x5 x6 x7 x8 x9 x10 x11 x12 x13 x14 : Option T) :
    ∃ (n : Int) (p1 : T), (sAsg (f2 gSub (fCall f__law_draw (fAI 1 (fAV (f2 gPow (M.ret (.int 10)) (M.ret (.int 60))) fANil))) (f2 gIxT (fCallL gLstL (fCons (f2 gPow (M.ret (.int 10)) (M.ret (.int 60))) (fCons (M.ret (.int 0)) (fCons (fCall f__law_pick (fAI 1 (fAV (fCallL gLstL (fCons (M.ret (.int 0)) (fCons (f2 gPow (M.ret (.int 10)) (M.ret (.int 59))) fNil))) fANil))) fNil)))) (fRd (fPl 2)))) (gSet 3)) [x0, some p, some (.int (j : Int)), x3, x4, x5, x6, x7, x8, x9, x10, x11, x12, x13, x14] = .nx [x0, some p1, some (.int (j : Int)), some (.int n), x4, x5, x6, x7, x8, x9, x10, x11, x12, x13, x14] ∧ -(10 ^ 61) ≤ n ∧ n + 1 ≤ 10 ^ 61 ∧ PenOk p1 (B + 2) := by
  obtain ⟨m, cs, turn, left, rfl, h3, h4⟩ := hp
  obtain ⟨d, m', turn', left', e, d0, d1, t0, t1⟩ := draw_ok m cs turn left (10 ^ 60) h3 (by omega) (by decide) (by decide +kernel)
  have hp1 : PenOk (penT m' cs turn' left') (B + 1) := ⟨m', cs, turn', left', rfl, t0, by omega⟩
  revert hp1 e
  generalize penT m' cs turn' left' = q
  generalize penT m cs turn left = p
  intro e hp1
  have g60 : (f2 gPow (M.ret (.int 10)) (M.ret (.int 60))) [x0, some p, some (.int (j : Int)), x3, x4, x5, x6, x7, x8, x9, x10, x11, x12, x13, x14] = .ok (.int (10 ^ 60)) [x0, some p, some (.int (j : Int)), x3, x4, x5, x6, x7, x8, x9, x10, x11, x12, x13, x14] := by
    simp -implicitDefEqProofs only [ev_ok, ev_exc, ev_ret, ev_lift, ev_pl, ev_plK, ev_rd, ev_rdPl, ev_rdK, ev_ix, ev_ixK, ev_deeper, ev_dpK, ev_f2, ev_f2K1, ev_f2K2, ev_f1, ev_f1K, ev_cC, ev_cCK1, ev_cCK2, ev_vC, ev_tst, ev_tstK, ev_and, ev_andT, ev_andF, ev_or, ev_orT, ev_orF, ev_not, ev_notK, ev_if, ev_ifT, ev_ifF, ev_nil, ev_cons, ev_consK1, ev_consK2, ev_callL, ev_callLK, ev_itL, ev_itLK, ev_it, ev_itK, ev_anil, ev_av, ev_avK1, ev_avK2, ev_ai, ev_aiJ, ev_aiK, ev_call, ev_callAR, ev_callK, ev_coR, ev_coE, ga_nil, ga_v, ga_i, ga_iK, ga_K, sc_nil, sc_v, sc_i, ev_seq, ev_seqN, ev_seqR, ev_seqE, ev_next, sb_ok, sb_exc, ev_sb, ev_sret, ev_retK, ev_expr, ev_nxK, ev_sif, ev_sifT, ev_sifF, ev_gu, ev_asg, ev_asgK, ev_set, ev_par, ev_parK, ev_gcK, ev_gc, ev_gn, ev_gtup, ev_gix, ev_gixK, ev_chg, ev_chK, ev_mv, ev_mvK, ev_lenB, ev_lenBK, ev_lbK, ev_emp, ev_empK, ev_epK, ev_sl, ev_slK0, ev_slK1, ev_slK2, ev_pI, ev_pIK, ev_pnil, ev_outN, ev_outR, ev_outE, ou_nil, ou_cons, xC, xVar, xBin, xNeg, atomV, get_nil, get_one, set_nil, set_one, pown_nil, pown_one, Option.isSome_some, Bool.and_self, Bool.and_true, Bool.true_and, Option.getD_some, Option.getD_none, List.getElem?_cons_zero, List.getElem?_cons_succ, List.set_cons_zero, List.set_cons_succ, List.nil_append, List.length_cons, List.length_nil, gNe, Option.map_some, if_true, if_false, Bool.not_true, Bool.not_false, Option.bind_some, List.isEmpty_nil, T.fz, NK.m, NK.fz, ev_lend, ev_lendB, ev_lendBK, ev_lendE, ev_lendBE, fzE_nil, fzE_none, fzE_some, ev_bNv, ev_bNvK, pw60]
  have dr : (fCall f__law_draw (fAI 1 (fAV (f2 gPow (M.ret (.int 10)) (M.ret (.int 60))) fANil))) [x0, some p, some (.int (j : Int)), x3, x4, x5, x6, x7, x8, x9, x10, x11, x12, x13, x14] = .ok (.int d) [x0, some q, some (.int (j : Int)), x3, x4, x5, x6, x7, x8, x9, x10, x11, x12, x13, x14] := pen_call rfl g60 e
  have g59 : (fCallL gLstL (fCons (M.ret (.int 0)) (fCons (f2 gPow (M.ret (.int 10)) (M.ret (.int 59))) fNil))) [x0, some q, some (.int (j : Int)), x3, x4, x5, x6, x7, x8, x9, x10, x11, x12, x13, x14] = .ok (.nd (.lst true) (([0, 10 ^ 59] : List Int).map T.int)) [x0, some q, some (.int (j : Int)), x3, x4, x5, x6, x7, x8, x9, x10, x11, x12, x13, x14] := by
    simp -implicitDefEqProofs only [ev_ok, ev_exc, ev_ret, ev_lift, ev_pl, ev_plK, ev_rd, ev_rdPl, ev_rdK, ev_ix, ev_ixK, ev_deeper, ev_dpK, ev_f2, ev_f2K1, ev_f2K2, ev_f1, ev_f1K, ev_cC, ev_cCK1, ev_cCK2, ev_vC, ev_tst, ev_tstK, ev_and, ev_andT, ev_andF, ev_or, ev_orT, ev_orF, ev_not, ev_notK, ev_if, ev_ifT, ev_ifF, ev_nil, ev_cons, ev_consK1, ev_consK2, ev_callL, ev_callLK, ev_itL, ev_itLK, ev_it, ev_itK, ev_anil, ev_av, ev_avK1, ev_avK2, ev_ai, ev_aiJ, ev_aiK, ev_call, ev_callAR, ev_callK, ev_coR, ev_coE, ga_nil, ga_v, ga_i, ga_iK, ga_K, sc_nil, sc_v, sc_i, ev_seq, ev_seqN, ev_seqR, ev_seqE, ev_next, sb_ok, sb_exc, ev_sb, ev_sret, ev_retK, ev_expr, ev_nxK, ev_sif, ev_sifT, ev_sifF, ev_gu, ev_asg, ev_asgK, ev_set, ev_par, ev_parK, ev_gcK, ev_gc, ev_gn, ev_gtup, ev_gix, ev_gixK, ev_chg, ev_chK, ev_mv, ev_mvK, ev_lenB, ev_lenBK, ev_lbK, ev_emp, ev_empK, ev_epK, ev_sl, ev_slK0, ev_slK1, ev_slK2, ev_pI, ev_pIK, ev_pnil, ev_outN, ev_outR, ev_outE, ou_nil, ou_cons, xC, xVar, xBin, xNeg, atomV, get_nil, get_one, set_nil, set_one, pown_nil, pown_one, Option.isSome_some, Bool.and_self, Bool.and_true, Bool.true_and, Option.getD_some, Option.getD_none, List.getElem?_cons_zero, List.getElem?_cons_succ, List.set_cons_zero, List.set_cons_succ, List.nil_append, List.length_cons, List.length_nil, gNe, Option.map_some, if_true, if_false, Bool.not_true, Bool.not_false, Option.bind_some, List.isEmpty_nil, T.fz, NK.m, NK.fz, ev_lend, ev_lendB, ev_lendBK, ev_lendE, ev_lendBE, fzE_nil, fzE_none, fzE_some, ev_bNv, ev_bNvK, pw59, lst3 [.int 0, .int (10 ^ 59)] (by decide)]
    rfl
  obtain ⟨x, p1, pk, hx, hp2⟩ := pick_at (j := 1) (ρ := [x0, some q, some (.int (j : Int)), x3, x4, x5, x6, x7, x8, x9, x10, x11, x12, x13, x14]) rfl g59 hp1 (by omega) (by decide) (by decide)
  have pk : (fCall f__law_pick (fAI 1 (fAV (fCallL gLstL (fCons (M.ret (.int 0)) (fCons (f2 gPow (M.ret (.int 10)) (M.ret (.int 59))) fNil))) fANil))) [x0, some q, some (.int (j : Int)), x3, x4, x5, x6, x7, x8, x9, x10, x11, x12, x13, x14] = .ok (.int x) [x0, some p1, some (.int (j : Int)), x3, x4, x5, x6, x7, x8, x9, x10, x11, x12, x13, x14] := pk
  have hx2 : 0 ≤ x ∧ x ≤ 10 ^ 60 := by
    rcases List.mem_cons.mp hx with rfl | hx
    · exact ⟨by decide, by decide⟩
    · rw [List.mem_singleton.mp hx]; exact ⟨by decide, by decide⟩
  have g60q : (f2 gPow (M.ret (.int 10)) (M.ret (.int 60))) [x0, some q, some (.int (j : Int)), x3, x4, x5, x6, x7, x8, x9, x10, x11, x12, x13, x14] = .ok (.int (10 ^ 60)) [x0, some q, some (.int (j : Int)), x3, x4, x5, x6, x7, x8, x9, x10, x11, x12, x13, x14] := by
    simp -implicitDefEqProofs only [ev_ok, ev_exc, ev_ret, ev_lift, ev_pl, ev_plK, ev_rd, ev_rdPl, ev_rdK, ev_ix, ev_ixK, ev_deeper, ev_dpK, ev_f2, ev_f2K1, ev_f2K2, ev_f1, ev_f1K, ev_cC, ev_cCK1, ev_cCK2, ev_vC, ev_tst, ev_tstK, ev_and, ev_andT, ev_andF, ev_or, ev_orT, ev_orF, ev_not, ev_notK, ev_if, ev_ifT, ev_ifF, ev_nil, ev_cons, ev_consK1, ev_consK2, ev_callL, ev_callLK, ev_itL, ev_itLK, ev_it, ev_itK, ev_anil, ev_av, ev_avK1, ev_avK2, ev_ai, ev_aiJ, ev_aiK, ev_call, ev_callAR, ev_callK, ev_coR, ev_coE, ga_nil, ga_v, ga_i, ga_iK, ga_K, sc_nil, sc_v, sc_i, ev_seq, ev_seqN, ev_seqR, ev_seqE, ev_next, sb_ok, sb_exc, ev_sb, ev_sret, ev_retK, ev_expr, ev_nxK, ev_sif, ev_sifT, ev_sifF, ev_gu, ev_asg, ev_asgK, ev_set, ev_par, ev_parK, ev_gcK, ev_gc, ev_gn, ev_gtup, ev_gix, ev_gixK, ev_chg, ev_chK, ev_mv, ev_mvK, ev_lenB, ev_lenBK, ev_lbK, ev_emp, ev_empK, ev_epK, ev_sl, ev_slK0, ev_slK1, ev_slK2, ev_pI, ev_pIK, ev_pnil, ev_outN, ev_outR, ev_outE, ou_nil, ou_cons, xC, xVar, xBin, xNeg, atomV, get_nil, get_one, set_nil, set_one, pown_nil, pown_one, Option.isSome_some, Bool.and_self, Bool.and_true, Bool.true_and, Option.getD_some, Option.getD_none, List.getElem?_cons_zero, List.getElem?_cons_succ, List.set_cons_zero, List.set_cons_succ, List.nil_append, List.length_cons, List.length_nil, gNe, Option.map_some, if_true, if_false, Bool.not_true, Bool.not_false, Option.bind_some, List.isEmpty_nil, T.fz, NK.m, NK.fz, ev_lend, ev_lendB, ev_lendBK, ev_lendE, ev_lendBE, fzE_nil, fzE_none, fzE_some, ev_bNv, ev_bNvK, pw60]
  have ll : (fCallL gLstL (fCons (f2 gPow (M.ret (.int 10)) (M.ret (.int 60))) (fCons (M.ret (.int 0)) (fCons (fCall f__law_pick (fAI 1 (fAV (fCallL gLstL (fCons (M.ret (.int 0)) (fCons (f2 gPow (M.ret (.int 10)) (M.ret (.int 59))) fNil))) fANil))) fNil)))) [x0, some q, some (.int (j : Int)), x3, x4, x5, x6, x7, x8, x9, x10, x11, x12, x13, x14] = .ok (.nd (.lst true) [.int (10 ^ 60), .int 0, .int x]) [x0, some p1, some (.int (j : Int)), x3, x4, x5, x6, x7, x8, x9, x10, x11, x12, x13, x14] := by
    simp -implicitDefEqProofs only [ev_ok, ev_exc, ev_ret, ev_lift, ev_pl, ev_plK, ev_rd, ev_rdPl, ev_rdK, ev_ix, ev_ixK, ev_deeper, ev_dpK, ev_f2, ev_f2K1, ev_f2K2, ev_f1, ev_f1K, ev_cC, ev_cCK1, ev_cCK2, ev_vC, ev_tst, ev_tstK, ev_and, ev_andT, ev_andF, ev_or, ev_orT, ev_orF, ev_not, ev_notK, ev_if, ev_ifT, ev_ifF, ev_nil, ev_cons, ev_consK1, ev_consK2, ev_callL, ev_callLK, ev_itL, ev_itLK, ev_it, ev_itK, ev_anil, ev_av, ev_avK1, ev_avK2, ev_ai, ev_aiJ, ev_aiK, ev_call, ev_callAR, ev_callK, ev_coR, ev_coE, ga_nil, ga_v, ga_i, ga_iK, ga_K, sc_nil, sc_v, sc_i, ev_seq, ev_seqN, ev_seqR, ev_seqE, ev_next, sb_ok, sb_exc, ev_sb, ev_sret, ev_retK, ev_expr, ev_nxK, ev_sif, ev_sifT, ev_sifF, ev_gu, ev_asg, ev_asgK, ev_set, ev_par, ev_parK, ev_gcK, ev_gc, ev_gn, ev_gtup, ev_gix, ev_gixK, ev_chg, ev_chK, ev_mv, ev_mvK, ev_lenB, ev_lenBK, ev_lbK, ev_emp, ev_empK, ev_epK, ev_sl, ev_slK0, ev_slK1, ev_slK2, ev_pI, ev_pIK, ev_pnil, ev_outN, ev_outR, ev_outE, ou_nil, ou_cons, xC, xVar, xBin, xNeg, atomV, get_nil, get_one, set_nil, set_one, pown_nil, pown_one, Option.isSome_some, Bool.and_self, Bool.and_true, Bool.true_and, Option.getD_some, Option.getD_none, List.getElem?_cons_zero, List.getElem?_cons_succ, List.set_cons_zero, List.set_cons_succ, List.nil_append, List.length_cons, List.length_nil, gNe, Option.map_some, if_true, if_false, Bool.not_true, Bool.not_false, Option.bind_some, List.isEmpty_nil, T.fz, NK.m, NK.fz, ev_lend, ev_lendB, ev_lendBK, ev_lendE, ev_lendBE, fzE_nil, fzE_none, fzE_some, ev_bNv, ev_bNvK, ↓g60q, ↓pk, lst3 [.int (10 ^ 60), .int 0, .int x] (by show 3 ≤ 1000; omega)]
  have ix : ∃ v : Int, gIxT (.nd (.lst true) [.int (10 ^ 60), .int 0, .int x]) (.int (j : Int)) = some (.int v) ∧ 0 ≤ v ∧ v ≤ 10 ^ 60 := by
    match j, hj with
    | 0, _ => exact ⟨10 ^ 60, rfl, by decide, by decide⟩
    | 1, _ => exact ⟨0, rfl, by decide, by decide⟩
    | 2, _ => exact ⟨x, rfl, hx2.1, hx2.2⟩
  obtain ⟨v, ix, v0, v1⟩ := ix
  have r2 : fRd (fPl 2) [x0, some p1, some (.int (j : Int)), x3, x4, x5, x6, x7, x8, x9, x10, x11, x12, x13, x14] = .ok (.int (j : Int)) [x0, some p1, some (.int (j : Int)), x3, x4, x5, x6, x7, x8, x9, x10, x11, x12, x13, x14] := rfl
  have li : (f2 gIxT (fCallL gLstL (fCons (f2 gPow (M.ret (.int 10)) (M.ret (.int 60))) (fCons (M.ret (.int 0)) (fCons (fCall f__law_pick (fAI 1 (fAV (fCallL gLstL (fCons (M.ret (.int 0)) (fCons (f2 gPow (M.ret (.int 10)) (M.ret (.int 59))) fNil))) fANil))) fNil)))) (fRd (fPl 2))) [x0, some q, some (.int (j : Int)), x3, x4, x5, x6, x7, x8, x9, x10, x11, x12, x13, x14] = .ok (.int v) [x0, some p1, some (.int (j : Int)), x3, x4, x5, x6, x7, x8, x9, x10, x11, x12, x13, x14] := by
    rw [ev_f2, ll, ev_ok, ev_f2K1, r2, ev_ok, ev_f2K2, ix, ev_lift]
  have gs : Tr.gSub (.int d) (.int v) = some (.int (d - v)) := rfl
  refine ⟨d - v, p1, ?_, by omega, by omega, hp2.le (by omega)⟩
  rw [ev_asg, ev_f2, dr, ev_ok, ev_f2K1, li, ev_ok, ev_f2K2, gs]
  rfl
theorem law3_ok {p : T} {B : Int} {j : Nat} (hp : PenOk p B) (hB : B + 2000 < 1000000) (hj : j < 3) (x0 x3 x4 x5 x6 x7 x8 x9 x10 x11 x12 x13 x14 : Option T) :
    ∃ p2 y3 y4 y5 y6 y7 y8 y9 y10 y11 y12 y13 y14, l_law_3 [x0, some p, some (.int (j : Int)), x3, x4, x5, x6, x7, x8, x9, x10, x11, x12, x13, x14] = .nx [x0, some p2, some (.int (j : Int)), y3, y4, y5, y6, y7, y8, y9, y10, y11, y12, y13, y14] ∧ PenOk p2 (B + 18) := by
  obtain ⟨n, p1, e1, n1, n2, hp1⟩ := num_ok hp (by omega) hj x0 x3 x4 x5 x6 x7 x8 x9 x10 x11 x12 x13 x14
  obtain ⟨a, b, p2, e2, hp2, ha, hb⟩ := names_ok hp1 (by omega)
  have i2 : (M.ret (T.int 2)) [x0, some p1, some (.int (j : Int)), some (.int n), x4, x5, x6, x7, x8, x9, x10, x11, x12, x13, x14] = .ok (.int 2) [x0, some p1, some (.int (j : Int)), some (.int n), x4, x5, x6, x7, x8, x9, x10, x11, x12, x13, x14] := rfl
  have c2 : (fCall f__law_new_names (fAI 1 (fAV (M.ret (.int 2)) fANil))) [x0, some p1, some (.int (j : Int)), some (.int n), x4, x5, x6, x7, x8, x9, x10, x11, x12, x13, x14] = .ok (stR true [a, b]) [x0, some p2, some (.int (j : Int)), some (.int n), x4, x5, x6, x7, x8, x9, x10, x11, x12, x13, x14] := pen_call rfl i2 e2
  have s2 : (sAsg (fCall f__law_new_names (fAI 1 (fAV (M.ret (.int 2)) fANil))) (gUnlT 2 (gsCons (gSet 4) (gsCons (gSet 5) gsNil)))) [x0, some p1, some (.int (j : Int)), some (.int n), x4, x5, x6, x7, x8, x9, x10, x11, x12, x13, x14] = .nx [x0, some p2, some (.int (j : Int)), some (.int n), some (.str a), some (.str b), x6, x7, x8, x9, x10, x11, x12, x13, x14] := by
    rw [ev_asg, c2]
    rfl
  have hn := log_ok (n := n) (by omega) (by omega)
  have hn2 := log_ok (n := n + 1) (by omega) (by omega)
  have fe1 := fielded_ok (n := n) (s := a) hn
  have fe2 := fielded_ok (n := n + 1) (s := b) hn2
  have s3 : (sPar (fCons (fCall f__law_fielded (fAV (fRd (fPl 3)) (fAV (fRd (fPl 4)) fANil))) (fCons (fCall f__law_fielded (fAV (f2 gAdd (fRd (fPl 3)) (M.ret (.int 1))) (fAV (fRd (fPl 5)) fANil))) fNil)) (gsCons (gSet 6) (gsCons (gSet 7) gsNil))) [x0, some p2, some (.int (j : Int)), some (.int n), some (.str a), some (.str b), x6, x7, x8, x9, x10, x11, x12, x13, x14] = .nx [x0, some p2, some (.int (j : Int)), some (.int n), some (.str a), some (.str b), some (.nd (.lst true) (rowsE n a)), some (.nd (.lst true) (rowsE (n + 1) b)), x8, x9, x10, x11, x12, x13, x14] := by
    simp -implicitDefEqProofs only [ev_ok, ev_exc, ev_ret, ev_lift, ev_pl, ev_plK, ev_rd, ev_rdPl, ev_rdK, ev_ix, ev_ixK, ev_deeper, ev_dpK, ev_f2, ev_f2K1, ev_f2K2, ev_f1, ev_f1K, ev_cC, ev_cCK1, ev_cCK2, ev_vC, ev_tst, ev_tstK, ev_and, ev_andT, ev_andF, ev_or, ev_orT, ev_orF, ev_not, ev_notK, ev_if, ev_ifT, ev_ifF, ev_nil, ev_cons, ev_consK1, ev_consK2, ev_callL, ev_callLK, ev_itL, ev_itLK, ev_it, ev_itK, ev_anil, ev_av, ev_avK1, ev_avK2, ev_ai, ev_aiJ, ev_aiK, ev_call, ev_callAR, ev_callK, ev_coR, ev_coE, ga_nil, ga_v, ga_i, ga_iK, ga_K, sc_nil, sc_v, sc_i, ev_seq, ev_seqN, ev_seqR, ev_seqE, ev_next, sb_ok, sb_exc, ev_sb, ev_sret, ev_retK, ev_expr, ev_nxK, ev_sif, ev_sifT, ev_sifF, ev_gu, ev_asg, ev_asgK, ev_set, ev_par, ev_parK, ev_gcK, ev_gc, ev_gn, ev_gtup, ev_gix, ev_gixK, ev_chg, ev_chK, ev_mv, ev_mvK, ev_lenB, ev_lenBK, ev_lbK, ev_emp, ev_empK, ev_epK, ev_sl, ev_slK0, ev_slK1, ev_slK2, ev_pI, ev_pIK, ev_pnil, ev_outN, ev_outR, ev_outE, ou_nil, ou_cons, xC, xVar, xBin, xNeg, atomV, get_nil, get_one, set_nil, set_one, pown_nil, pown_one, Option.isSome_some, Bool.and_self, Bool.and_true, Bool.true_and, Option.getD_some, Option.getD_none, List.getElem?_cons_zero, List.getElem?_cons_succ, List.set_cons_zero, List.set_cons_succ, List.nil_append, List.length_cons, List.length_nil, gNe, Option.map_some, if_true, if_false, Bool.not_true, Bool.not_false, Option.bind_some, List.isEmpty_nil, T.fz, NK.m, NK.fz, ev_lend, ev_lendB, ev_lendBK, ev_lendE, ev_lendBE, fzE_nil, fzE_none, fzE_some, ev_bNv, ev_bNvK, fe1, fe2, gAdd]
  have it : (fItemsL (fCons (M.ret (.int 6)) fNil) rngItems) [x0, some p2, some (.int (j : Int)), some (.int n), some (.str a), some (.str b), some (.nd (.lst true) (rowsE n a)), some (.nd (.lst true) (rowsE (n + 1) b)), x8, x9, x10, x11, x12, x13, x14] = .ok ((List.range 6).map fun (i : Nat) => T.int (0 + (i : Int))) [x0, some p2, some (.int (j : Int)), some (.int n), some (.str a), some (.str b), some (.nd (.lst true) (rowsE n a)), some (.nd (.lst true) (rowsE (n + 1) b)), x8, x9, x10, x11, x12, x13, x14] := rfl
  have L := for_inv (g := gSet 8) (body := l_law_2) (Inv := fun i ρ => ∃ y8 y9 y10 y11 y12, ρ = [x0, some p2, some (.int (j : Int)), some (.int n), some (.str a), some (.str b), some (.nd (.lst true) (rowsE n a)), some (.nd (.lst true) (rowsE (n + 1) b)), y8, y9, y10, y11, y12, x13, x14]) ((List.range 6).map fun (i : Nat) => T.int (0 + (i : Int))) [x0, some p2, some (.int (j : Int)), some (.int n), some (.str a), some (.str b), some (.nd (.lst true) (rowsE n a)), some (.nd (.lst true) (rowsE (n + 1) b)), x8, x9, x10, x11, x12, x13, x14] ⟨_, _, _, _, _, rfl⟩ (fun i t ρ ht ⟨y8, y9, y10, y11, y12, e⟩ => by
    subst e
    obtain ⟨hi, rfl⟩ := rng_some ht
    obtain ⟨z9, z10, z11, z12, e2⟩ := law2_ok (n := n) (n2 := n + 1) (s := a) (s2 := b) hn hn2 (repr_ok ha) (repr_ok hb) hi _ _ _ _ _ _ _ _ _ _ _ _
    exact ⟨_, _, rfl, e2, _, _, _, _, _, rfl⟩)
  obtain ⟨ρ', w, y8, y9, y10, y11, y12, rfl⟩ := L
  have s5 : (sAsg (fCallL gLstL (fCons (f1 (gXfld oc_line "line") (fRd (fIx (xC (.int 0)) (fIx (xC (.int 0)) (fPl 6))))) (fCons (f1 (gXfld oc_line "line") (fRd (fIx (xC (.int 0)) (fIx (xC (.int 1)) (fPl 6))))) (fCons (f1 (gXfld oc_index "index") (fRd (fIx (xC (.int 0)) (fIx (xC (.int 2)) (fPl 6))))) fNil)))) (gSet 13)) [x0, some p2, some (.int (j : Int)), some (.int n), some (.str a), some (.str b), some (.nd (.lst true) (rowsE n a)), some (.nd (.lst true) (rowsE (n + 1) b)), y8, y9, y10, y11, y12, x13, x14] = .nx [x0, some p2, some (.int (j : Int)), some (.int n), some (.str a), some (.str b), some (.nd (.lst true) (rowsE n a)), some (.nd (.lst true) (rowsE (n + 1) b)), y8, y9, y10, y11, y12, some (.nd (.lst true) [.int n, .int n, .int n]), x14] := by kernel_rfl
  have s6 : (sAsg (fCallL gLstL (fCons (f1 (gXfld oc_name "name") (fRd (fIx (xC (.int 0)) (fIx (xC (.int 3)) (fPl 6))))) (fCons (f1 (gXfld oc_name "name") (fRd (fIx (xC (.int 0)) (fIx (xC (.int 4)) (fPl 6))))) (fCons (f1 (gXfld oc_name "name") (fRd (fIx (xC (.int 0)) (fIx (xC (.int 5)) (fPl 6))))) fNil)))) (gSet 14)) [x0, some p2, some (.int (j : Int)), some (.int n), some (.str a), some (.str b), some (.nd (.lst true) (rowsE n a)), some (.nd (.lst true) (rowsE (n + 1) b)), y8, y9, y10, y11, y12, some (.nd (.lst true) [.int n, .int n, .int n]), x14] = .nx [x0, some p2, some (.int (j : Int)), some (.int n), some (.str a), some (.str b), some (.nd (.lst true) (rowsE n a)), some (.nd (.lst true) (rowsE (n + 1) b)), y8, y9, y10, y11, y12, some (.nd (.lst true) [.int n, .int n, .int n]), some (.nd (.lst true) [.str a, .str a, .str a])] := by kernel_rfl
  have q1 : gEq (.nd (.lst false) [.int n, .int n, .int n]) (.nd (.lst true) [.int n, .int n, .int n]) = some true := by
    have := eq_I false true [n, n, n] [n, n, n]
    rw [show gEq (.nd (.lst false) [.int n, .int n, .int n]) (.nd (.lst true) [.int n, .int n, .int n]) = some (decide ([n, n, n] = [n, n, n])) from this]
    simp
  have q2 : gEq (.nd (.lst false) [.str a, .str a, .str a]) (.nd (.lst true) [.str a, .str a, .str a]) = some true := eq_S false true [a, a, a] (by intro x hx; simp at hx; rw [hx]; exact ok16 a ha)
  have k1 : gMul2 (.nd (.lst true) [.int n]) (.int 3) = some (.nd (.lst true) [.int n, .int n, .int n]) := by kernel_rfl
  have k2 : gMul2 (.nd (.lst true) [.str a]) (.int 3) = some (.nd (.lst true) [.str a, .str a, .str a]) := by kernel_rfl
  have r13 : fRd (fPl 13) [x0, some p2, some (.int (j : Int)), some (.int n), some (.str a), some (.str b), some (.nd (.lst true) (rowsE n a)), some (.nd (.lst true) (rowsE (n + 1) b)), y8, y9, y10, y11, y12, some (.nd (.lst true) [.int n, .int n, .int n]), some (.nd (.lst true) [.str a, .str a, .str a])] = .ok (.nd (.lst false) [.int n, .int n, .int n]) [x0, some p2, some (.int (j : Int)), some (.int n), some (.str a), some (.str b), some (.nd (.lst true) (rowsE n a)), some (.nd (.lst true) (rowsE (n + 1) b)), y8, y9, y10, y11, y12, some (.nd (.lst false) [.int n, .int n, .int n]), some (.nd (.lst true) [.str a, .str a, .str a])] := rfl
  have r14 : fRd (fPl 14) [x0, some p2, some (.int (j : Int)), some (.int n), some (.str a), some (.str b), some (.nd (.lst true) (rowsE n a)), some (.nd (.lst true) (rowsE (n + 1) b)), y8, y9, y10, y11, y12, some (.nd (.lst false) [.int n, .int n, .int n]), some (.nd (.lst true) [.str a, .str a, .str a])] = .ok (.nd (.lst false) [.str a, .str a, .str a]) [x0, some p2, some (.int (j : Int)), some (.int n), some (.str a), some (.str b), some (.nd (.lst true) (rowsE n a)), some (.nd (.lst true) (rowsE (n + 1) b)), y8, y9, y10, y11, y12, some (.nd (.lst false) [.int n, .int n, .int n]), some (.nd (.lst false) [.str a, .str a, .str a])] := rfl
  have s7 : (sIf (bOr (cC gNe (fRd (fPl 13)) (f2 gMul2 (fCallL gLstL (fCons (fRd (fPl 3)) fNil)) (M.ret (.int 3)))) (cC gNe (fRd (fPl 14)) (f2 gMul2 (fCallL gLstL (fCons (fRd (fPl 4)) fNil)) (M.ret (.int 3)))))
 (sRet (M.ret (.bl false)))
 sNext) [x0, some p2, some (.int (j : Int)), some (.int n), some (.str a), some (.str b), some (.nd (.lst true) (rowsE n a)), some (.nd (.lst true) (rowsE (n + 1) b)), y8, y9, y10, y11, y12, some (.nd (.lst true) [.int n, .int n, .int n]), some (.nd (.lst true) [.str a, .str a, .str a])] = .nx [x0, some p2, some (.int (j : Int)), some (.int n), some (.str a), some (.str b), some (.nd (.lst true) (rowsE n a)), some (.nd (.lst true) (rowsE (n + 1) b)), y8, y9, y10, y11, y12, some (.nd (.lst false) [.int n, .int n, .int n]), some (.nd (.lst false) [.str a, .str a, .str a])] := by
    simp -implicitDefEqProofs only [ev_ok, ev_exc, ev_ret, ev_lift, ev_pl, ev_plK, ev_rd, ev_rdPl, ev_rdK, ev_ix, ev_ixK, ev_deeper, ev_dpK, ev_f2, ev_f2K1, ev_f2K2, ev_f1, ev_f1K, ev_cC, ev_cCK1, ev_cCK2, ev_vC, ev_tst, ev_tstK, ev_and, ev_andT, ev_andF, ev_or, ev_orT, ev_orF, ev_not, ev_notK, ev_if, ev_ifT, ev_ifF, ev_nil, ev_cons, ev_consK1, ev_consK2, ev_callL, ev_callLK, ev_itL, ev_itLK, ev_it, ev_itK, ev_anil, ev_av, ev_avK1, ev_avK2, ev_ai, ev_aiJ, ev_aiK, ev_call, ev_callAR, ev_callK, ev_coR, ev_coE, ga_nil, ga_v, ga_i, ga_iK, ga_K, sc_nil, sc_v, sc_i, ev_seq, ev_seqN, ev_seqR, ev_seqE, ev_next, sb_ok, sb_exc, ev_sb, ev_sret, ev_retK, ev_expr, ev_nxK, ev_sif, ev_sifT, ev_sifF, ev_gu, ev_asg, ev_asgK, ev_set, ev_par, ev_parK, ev_gcK, ev_gc, ev_gn, ev_gtup, ev_gix, ev_gixK, ev_chg, ev_chK, ev_mv, ev_mvK, ev_lenB, ev_lenBK, ev_lbK, ev_emp, ev_empK, ev_epK, ev_sl, ev_slK0, ev_slK1, ev_slK2, ev_pI, ev_pIK, ev_pnil, ev_outN, ev_outR, ev_outE, ou_nil, ou_cons, xC, xVar, xBin, xNeg, atomV, get_nil, get_one, set_nil, set_one, pown_nil, pown_one, Option.isSome_some, Bool.and_self, Bool.and_true, Bool.true_and, Option.getD_some, Option.getD_none, List.getElem?_cons_zero, List.getElem?_cons_succ, List.set_cons_zero, List.set_cons_succ, List.nil_append, List.length_cons, List.length_nil, gNe, Option.map_some, if_true, if_false, Bool.not_true, Bool.not_false, Option.bind_some, List.isEmpty_nil, T.fz, NK.m, NK.fz, ev_lend, ev_lendB, ev_lendBK, ev_lendE, ev_lendBE, fzE_nil, fzE_none, fzE_some, ev_bNv, ev_bNvK, ↓r13, ↓r14, lst3 [.int n] (by show 1 ≤ 1000; omega), lst3 [.str a] (by show 1 ≤ 1000; omega), k1, k2, q1, q2]
  have s8 : (sIf (bNot (fTest (fCall f__law_plain_right fANil)))
 (sRet (M.ret (.bl false)))
 sNext) [x0, some p2, some (.int (j : Int)), some (.int n), some (.str a), some (.str b), some (.nd (.lst true) (rowsE n a)), some (.nd (.lst true) (rowsE (n + 1) b)), y8, y9, y10, y11, y12, some (.nd (.lst false) [.int n, .int n, .int n]), some (.nd (.lst false) [.str a, .str a, .str a])] = .nx [x0, some p2, some (.int (j : Int)), some (.int n), some (.str a), some (.str b), some (.nd (.lst true) (rowsE n a)), some (.nd (.lst true) (rowsE (n + 1) b)), y8, y9, y10, y11, y12, some (.nd (.lst false) [.int n, .int n, .int n]), some (.nd (.lst false) [.str a, .str a, .str a])] := by
    simp -implicitDefEqProofs only [ev_ok, ev_exc, ev_ret, ev_lift, ev_pl, ev_plK, ev_rd, ev_rdPl, ev_rdK, ev_ix, ev_ixK, ev_deeper, ev_dpK, ev_f2, ev_f2K1, ev_f2K2, ev_f1, ev_f1K, ev_cC, ev_cCK1, ev_cCK2, ev_vC, ev_tst, ev_tstK, ev_and, ev_andT, ev_andF, ev_or, ev_orT, ev_orF, ev_not, ev_notK, ev_if, ev_ifT, ev_ifF, ev_nil, ev_cons, ev_consK1, ev_consK2, ev_callL, ev_callLK, ev_itL, ev_itLK, ev_it, ev_itK, ev_anil, ev_av, ev_avK1, ev_avK2, ev_ai, ev_aiJ, ev_aiK, ev_call, ev_callAR, ev_callK, ev_coR, ev_coE, ga_nil, ga_v, ga_i, ga_iK, ga_K, sc_nil, sc_v, sc_i, ev_seq, ev_seqN, ev_seqR, ev_seqE, ev_next, sb_ok, sb_exc, ev_sb, ev_sret, ev_retK, ev_expr, ev_nxK, ev_sif, ev_sifT, ev_sifF, ev_gu, ev_asg, ev_asgK, ev_set, ev_par, ev_parK, ev_gcK, ev_gc, ev_gn, ev_gtup, ev_gix, ev_gixK, ev_chg, ev_chK, ev_mv, ev_mvK, ev_lenB, ev_lenBK, ev_lbK, ev_emp, ev_empK, ev_epK, ev_sl, ev_slK0, ev_slK1, ev_slK2, ev_pI, ev_pIK, ev_pnil, ev_outN, ev_outR, ev_outE, ou_nil, ou_cons, xC, xVar, xBin, xNeg, atomV, get_nil, get_one, set_nil, set_one, pown_nil, pown_one, Option.isSome_some, Bool.and_self, Bool.and_true, Bool.true_and, Option.getD_some, Option.getD_none, List.getElem?_cons_zero, List.getElem?_cons_succ, List.set_cons_zero, List.set_cons_succ, List.nil_append, List.length_cons, List.length_nil, gNe, Option.map_some, if_true, if_false, Bool.not_true, Bool.not_false, Option.bind_some, List.isEmpty_nil, T.fz, NK.m, NK.fz, ev_lend, ev_lendB, ev_lendBK, ev_lendE, ev_lendBE, fzE_nil, fzE_none, fzE_some, ev_bNv, ev_bNvK, plain_ok]
  refine ⟨p2, some (.int n), some (.str a), some (.str b), some (.nd (.lst true) (rowsE n a)), some (.nd (.lst true) (rowsE (n + 1) b)), y8, y9, y10, y11, y12, some (.nd (.lst false) [.int n, .int n, .int n]), some (.nd (.lst false) [.str a, .str a, .str a]), ?_, hp2.le (by omega)⟩
  unfold l_law_3
  rw [ev_seq, e1, ev_seqN, ev_seq, s2, ev_seqN, ev_seq, s3, ev_seqN, ev_seq, ev_for, it, sb_ok, w, ev_seqN, ev_seq, s5, ev_seqN, ev_seq, s6, ev_seqN, ev_seq, s7, ev_seqN, s8]
end TrLaw
end

section
set_option Elab.async false
set_option linter.all false
set_option autoImplicit false
set_option maxRecDepth 100000
namespace TrLaw
open Tr PySem PySem.Spec PyProof.Rows L2
theorem mb_ap {α β : Type} (x : M α) (k : α → M β) (ρ : Tr.Env) : (x.bind k) ρ = (x ρ).bind k := rfl
theorem sv1 (x1 : T) (ts : List T) (ρ : Tr.Env) : scatter [.v x1] ts ρ = ρ := by
  rcases ts with _ | ⟨_, _⟩ <;> rfl
theorem begun (ns : List Int) : ∃ (cs : List Int) (ts : List T), f__law_begun_pen [.nd .scr (ns.map T.int)] = .ret (penT true cs 0 0) ts := by
  have hev : f__law_begun_pen [.nd .scr (ns.map T.int)] = outK [true] (b__law_begun_pen [some (.nd .scr (ns.map T.int))]) := run_ev rfl rfl
  rw [hev]
  clear hev
  obtain ⟨cs, hcs⟩ : ∃ cs : List Int, cutT (ns.map T.int) none (some 63) = cs.map T.int := ⟨_, by unfold cutT; rw [← List.map_drop, ← List.map_take]⟩
  have e1 : (fCallL gList (fCons (fSl (fRd (fPl 0)) (M.ret none) (pInt (M.ret (.int 63)))) fNil)) [some (.nd .scr (ns.map T.int))] = .ok (.nd (.lst true) (cs.map T.int)) [some (.nd .scr (ns.map T.int))] := by
    have g : gSl (.nd .scr (ns.map T.int)) none (some 63) = some (.nd (.lst true) (cutT (ns.map T.int) none (some 63))) := rfl
    have r0 : fRd (fPl 0) [some (.nd .scr (ns.map T.int))] = .ok (.nd .scr (ns.map T.int)) [some (.nd .scr (ns.map T.int))] := rfl
    simp -implicitDefEqProofs only [ev_ok, ev_exc, ev_ret, ev_lift, ev_pl, ev_plK, ev_rd, ev_rdPl, ev_rdK, ev_ix, ev_ixK, ev_deeper, ev_dpK, ev_f2, ev_f2K1, ev_f2K2, ev_f1, ev_f1K, ev_cC, ev_cCK1, ev_cCK2, ev_vC, ev_tst, ev_tstK, ev_and, ev_andT, ev_andF, ev_or, ev_orT, ev_orF, ev_not, ev_notK, ev_if, ev_ifT, ev_ifF, ev_nil, ev_cons, ev_consK1, ev_consK2, ev_callL, ev_callLK, ev_itL, ev_itLK, ev_it, ev_itK, ev_anil, ev_av, ev_avK1, ev_avK2, ev_ai, ev_aiJ, ev_aiK, ev_call, ev_callAR, ev_callK, ev_coR, ev_coE, ga_nil, ga_v, ga_i, ga_iK, ga_K, sc_nil, sc_v, sc_i, ev_seq, ev_seqN, ev_seqR, ev_seqE, ev_next, sb_ok, sb_exc, ev_sb, ev_sret, ev_retK, ev_expr, ev_nxK, ev_sif, ev_sifT, ev_sifF, ev_gu, ev_asg, ev_asgK, ev_set, ev_par, ev_parK, ev_gcK, ev_gc, ev_gn, ev_gtup, ev_gix, ev_gixK, ev_chg, ev_chK, ev_mv, ev_mvK, ev_lenB, ev_lenBK, ev_lbK, ev_emp, ev_empK, ev_epK, ev_sl, ev_slK0, ev_slK1, ev_slK2, ev_pI, ev_pIK, ev_pnil, ev_outN, ev_outR, ev_outE, ou_nil, ou_cons, xC, xVar, xBin, xNeg, atomV, get_nil, get_one, set_nil, set_one, pown_nil, pown_one, Option.isSome_some, Bool.and_self, Bool.and_true, Bool.true_and, Option.getD_some, Option.getD_none, List.getElem?_cons_zero, List.getElem?_cons_succ, List.set_cons_zero, List.set_cons_succ, List.nil_append, List.length_cons, List.length_nil, gNe, Option.map_some, if_true, if_false, Bool.not_true, Bool.not_false, Option.bind_some, List.isEmpty_nil, T.fz, NK.m, NK.fz, ev_lend, ev_lendB, ev_lendBK, ev_lendE, ev_lendBE, fzE_nil, fzE_none, fzE_some, ev_bNv, ev_bNvK, ↓r0, g, hcs, gList]
  refine ⟨cs, [.nd .scr (ns.map T.int)], ?_⟩
  unfold b__law_begun_pen
  rw [ev_sret]
  have e2 : (fDisp (fPCons (M.ret (.str "cells")) (fCallL gList (fCons (fSl (fRd (fPl 0)) (M.ret none) (pInt (M.ret (.int 63)))) fNil)) (fPCons (M.ret (.str "turn")) (M.ret (.int 0)) (fPCons (M.ret (.str "left")) (M.ret (.int 0)) fPNil)))) [some (.nd .scr (ns.map T.int))] = .ok (penT true cs 0 0) [some (.nd .scr (ns.map T.int))] := by
    have e3 : (fPCons (M.ret (.str "cells")) (fCallL gList (fCons (fSl (fRd (fPl 0)) (M.ret none) (pInt (M.ret (.int 63)))) fNil)) (fPCons (M.ret (.str "turn")) (M.ret (.int 0)) (fPCons (M.ret (.str "left")) (M.ret (.int 0)) fPNil))) [some (.nd .scr (ns.map T.int))] = .ok [(.inr "cells", .nd (.lst true) (cs.map T.int)), (.inr "turn", .int 0), (.inr "left", .int 0)] [some (.nd .scr (ns.map T.int))] := by
      unfold fPCons
      simp -implicitDefEqProofs only [mb_ap, ev_ret, ev_ok, e1, keyT, ev_pnil]
    unfold fDisp
    rw [mb_ap, e3]
    rfl
  rw [e2]
  rfl

theorem law_true (ns : List Int) (hl : ns.length ≤ 63) (hb : ∀ z ∈ ns, PySem.Builtin.Int.intBits z ≤ 1048576) : ∃ ts, f_law [.nd .scr (ns.map Tr.T.int)] = .ret (.bl true) ts := by
  have hev : f_law [.nd .scr (ns.map T.int)] = outK [true] (b_law [some (.nd .scr (ns.map T.int)), none, none, none, none, none, none, none, none, none, none, none, none, none, none]) := run_ev rfl rfl
  rw [hev]
  clear hev
  unfold b_law
  obtain ⟨cs, tb, eb⟩ := begun ns
  have s1 : (sAsg (fCall f__law_begun_pen (fAV (fRd (fPl 0)) fANil)) (gSet 1)) [some (.nd .scr (ns.map T.int)), none, none, none, none, none, none, none, none, none, none, none, none, none, none] = .nx [some (.nd .scr (ns.map T.int)), some (penT true cs 0 0), none, none, none, none, none, none, none, none, none, none, none, none, none] := by
    have r0 : fRd (fPl 0) [some (.nd .scr (ns.map T.int)), none, none, none, none, none, none, none, none, none, none, none, none, none, none] = .ok (.nd .scr (ns.map T.int)) [some (.nd .scr (ns.map T.int)), none, none, none, none, none, none, none, none, none, none, none, none, none, none] := rfl
    simp -implicitDefEqProofs only [ev_ok, ev_exc, ev_ret, ev_lift, ev_pl, ev_plK, ev_rd, ev_rdPl, ev_rdK, ev_ix, ev_ixK, ev_deeper, ev_dpK, ev_f2, ev_f2K1, ev_f2K2, ev_f1, ev_f1K, ev_cC, ev_cCK1, ev_cCK2, ev_vC, ev_tst, ev_tstK, ev_and, ev_andT, ev_andF, ev_or, ev_orT, ev_orF, ev_not, ev_notK, ev_if, ev_ifT, ev_ifF, ev_nil, ev_cons, ev_consK1, ev_consK2, ev_callL, ev_callLK, ev_itL, ev_itLK, ev_it, ev_itK, ev_anil, ev_av, ev_avK1, ev_avK2, ev_ai, ev_aiJ, ev_aiK, ev_call, ev_callAR, ev_callK, ev_coR, ev_coE, ga_nil, ga_v, ga_i, ga_iK, ga_K, sc_nil, sc_v, sc_i, ev_seq, ev_seqN, ev_seqR, ev_seqE, ev_next, sb_ok, sb_exc, ev_sb, ev_sret, ev_retK, ev_expr, ev_nxK, ev_sif, ev_sifT, ev_sifF, ev_gu, ev_asg, ev_asgK, ev_set, ev_par, ev_parK, ev_gcK, ev_gc, ev_gn, ev_gtup, ev_gix, ev_gixK, ev_chg, ev_chK, ev_mv, ev_mvK, ev_lenB, ev_lenBK, ev_lbK, ev_emp, ev_empK, ev_epK, ev_sl, ev_slK0, ev_slK1, ev_slK2, ev_pI, ev_pIK, ev_pnil, ev_outN, ev_outR, ev_outE, ou_nil, ou_cons, xC, xVar, xBin, xNeg, atomV, get_nil, get_one, set_nil, set_one, pown_nil, pown_one, Option.isSome_some, Bool.and_self, Bool.and_true, Bool.true_and, Option.getD_some, Option.getD_none, List.getElem?_cons_zero, List.getElem?_cons_succ, List.set_cons_zero, List.set_cons_succ, List.nil_append, List.length_cons, List.length_nil, gNe, Option.map_some, if_true, if_false, Bool.not_true, Bool.not_false, Option.bind_some, List.isEmpty_nil, T.fz, NK.m, NK.fz, ev_lend, ev_lendB, ev_lendBK, ev_lendE, ev_lendBE, fzE_nil, fzE_none, fzE_some, ev_bNv, ev_bNvK, ↓r0, eb, ↓sv1]
  rw [ev_seq, s1, ev_seqN, ev_seq, ev_for]
  have it : (fItemsL (fCons (M.ret (.int 3)) fNil) rngItems) [some (.nd .scr (ns.map T.int)), some (penT true cs 0 0), none, none, none, none, none, none, none, none, none, none, none, none, none] = .ok ((List.range 3).map fun (i : Nat) => T.int (0 + (i : Int))) [some (.nd .scr (ns.map T.int)), some (penT true cs 0 0), none, none, none, none, none, none, none, none, none, none, none, none, none] := rfl
  rw [it, sb_ok]
  have L := for_inv (g := gSet 2) (body := l_law_3) (Inv := fun i ρ => ∃ p x2 x3 x4 x5 x6 x7 x8 x9 x10 x11 x12 x13 x14, ρ = [some (.nd .scr (ns.map T.int)), some p, x2, x3, x4, x5, x6, x7, x8, x9, x10, x11, x12, x13, x14] ∧ PenOk p (9000 * i) ∧ i ≤ 3) ((List.range 3).map fun (i : Nat) => T.int (0 + (i : Int))) [some (.nd .scr (ns.map T.int)), some (penT true cs 0 0), none, none, none, none, none, none, none, none, none, none, none, none, none] ⟨_, _, _, _, _, _, _, _, _, _, _, _, _, _, rfl, ⟨true, cs, 0, 0, rfl, by omega, by omega⟩, Nat.zero_le _⟩ (fun j t ρ ht ⟨p, x2,x3,x4,x5,x6,x7,x8,x9,x10,x11,x12,x13,x14, e, hp, _⟩ => by
    subst e
    obtain ⟨hj, rfl⟩ := rng_some ht
    obtain ⟨p', y3, y4, y5, y6, y7, y8, y9, y10, y11, y12, y13, y14, e2, hp2⟩ := law3_ok hp (by omega) hj (some (.nd .scr (ns.map T.int))) x3 x4 x5 x6 x7 x8 x9 x10 x11 x12 x13 x14
    exact ⟨_, _, rfl, e2, p', _, _, _, _, _, _, _, _, _, _, _, _, _, rfl, hp2.le (by omega), by omega⟩)
  obtain ⟨ρ', w, p, x2, x3, x4, x5, x6, x7, x8, x9, x10, x11, x12, x13, x14, e, _⟩ := L
  rw [w, e]
  simp -implicitDefEqProofs only [ev_ok, ev_exc, ev_ret, ev_lift, ev_pl, ev_plK, ev_rd, ev_rdPl, ev_rdK, ev_ix, ev_ixK, ev_deeper, ev_dpK, ev_f2, ev_f2K1, ev_f2K2, ev_f1, ev_f1K, ev_cC, ev_cCK1, ev_cCK2, ev_vC, ev_tst, ev_tstK, ev_and, ev_andT, ev_andF, ev_or, ev_orT, ev_orF, ev_not, ev_notK, ev_if, ev_ifT, ev_ifF, ev_nil, ev_cons, ev_consK1, ev_consK2, ev_callL, ev_callLK, ev_itL, ev_itLK, ev_it, ev_itK, ev_anil, ev_av, ev_avK1, ev_avK2, ev_ai, ev_aiJ, ev_aiK, ev_call, ev_callAR, ev_callK, ev_coR, ev_coE, ga_nil, ga_v, ga_i, ga_iK, ga_K, sc_nil, sc_v, sc_i, ev_seq, ev_seqN, ev_seqR, ev_seqE, ev_next, sb_ok, sb_exc, ev_sb, ev_sret, ev_retK, ev_expr, ev_nxK, ev_sif, ev_sifT, ev_sifF, ev_gu, ev_asg, ev_asgK, ev_set, ev_par, ev_parK, ev_gcK, ev_gc, ev_gn, ev_gtup, ev_gix, ev_gixK, ev_chg, ev_chK, ev_mv, ev_mvK, ev_lenB, ev_lenBK, ev_lbK, ev_emp, ev_empK, ev_epK, ev_sl, ev_slK0, ev_slK1, ev_slK2, ev_pI, ev_pIK, ev_pnil, ev_outN, ev_outR, ev_outE, ou_nil, ou_cons, xC, xVar, xBin, xNeg, atomV, get_nil, get_one, set_nil, set_one, pown_nil, pown_one, Option.isSome_some, Bool.and_self, Bool.and_true, Bool.true_and, Option.getD_some, Option.getD_none, List.getElem?_cons_zero, List.getElem?_cons_succ, List.set_cons_zero, List.set_cons_succ, List.nil_append, List.length_cons, List.length_nil, gNe, Option.map_some, if_true, if_false, Bool.not_true, Bool.not_false, Option.bind_some, List.isEmpty_nil, T.fz, NK.m, NK.fz, ev_lend, ev_lendB, ev_lendBK, ev_lendE, ev_lendBE, fzE_nil, fzE_none, fzE_some, ev_bNv, ev_bNvK]
  exact ⟨_, rfl⟩
end TrLaw
end

set_option Elab.async false
set_option linter.all false
set_option autoImplicit false
set_option maxRecDepth 100000
open PySem PySem.W PySem.Calls PyProof.Rows
set_option maxHeartbeats 0 in
theorem PySem.Challenge.cw_digitsturn_k16_errors_holds : PySem.Challenge.rw_digitsturn_k16_errors.Holds := by
  w_on; o_law
  refine HandSHeadRun.head_any (r := OpenLaw.row PySem.Challenge.rw_digitsturn_k16_errors) (q := view (OpenLaw.row PySem.Challenge.rw_digitsturn_k16_errors).prog [23]) (H := TrLaw.hkM) (ob := TrLaw.obF) (M := 6000) (loose := TrLaw.loose) (d := HandSHeadRun.topDef (OpenLaw.row PySem.Challenge.rw_digitsturn_k16_errors).prog 23) (kwd := []) TrLaw.obF_eq
    (by kernel_rfl) (fun s => by kernel_rfl) TrLaw.runF_ (by kernel_rfl) (by kernel_rfl) (by kernel_rfl) (by rfl) (by first | assumption | decide +kernel) (by decide +kernel) ⟨rfl, rfl, rfl, rfl, rfl, by decide +kernel⟩ ?hw ?hc
  case hw => w_witness2
  case hc =>
    refine Tr.walk_law (l := PySem.Challenge.rw_digitsturn_k16_errors) (n := 63) (k := 4) (x := "script") rfl (by decide) (by kernel_rfl) ⟨rfl, by decide, by decide⟩ ?F
    intro w mg fa h Y G hmg0
    obtain ⟨K, KX, c⟩ := Y
    have hmg : mg ("law" : PySem.Str) = some (.ref fa) := by
      have e : (HandSHeadRun.topDef (OpenLaw.row PySem.Challenge.rw_digitsturn_k16_errors).prog 23).name = ("law" : PySem.Str) := by kernel_rfl
      rw [← e]
      exact hmg0
    obtain ⟨t0⟩ := TrLaw.tx_of KX G c
    have e := hmg.symm.trans t0.g_law
    cases e
    refine ⟨K, t0.fd 20, TrLaw.ctK K, TrLaw.efK, TrLaw.f_law, KX, ?_, fun ns hl hb => TrLaw.law_true ns hl hb, fun base hK hG => ?_⟩
    · exact fun s u => Tr.bindsA (ps := ["script"]) t0.F_law (fun _ _ _ _ _ _ us hl => match us, hl with | [_], _ => rfl) s [u] rfl
    · exact TrLaw.ok_law t0
