import PyProof.Rows.All
import Wide.All
import OpenK.AllK
import Wide.FinOn
import HandS.ForMost
import HandS.ForExc
import HandS.Defaults
import HandS.Gcd
import HandS.Wide
import HandS.WideBits
import HandS.ExcInit
import HandS.ExcField
import HandS.CallSlots
import HandS.Walk
import HandS.Zip
import HandS.Rev
import HandS.IsInst
import HandS.Steps
import HandS.Style
import HandS.StrMore
import HandS.Conv
import HandS.TupAny
import HandS.ExcCtx
import HandS.HotCalls
import HandS.TryOnly
import HandS.SlotsOwn
import HandS.Head0
import HandS.Head1
import HandS.Head2
import HandS.HeadEnd
import HandS.HeadHook1
import HandS.HeadHook2
import HandS.EndBits
import HandS.Codes
import HandS.Head3
import PySem.Challenge.RW_stillabove_k06_stretches_as_sets
section
set_option Elab.async false
set_option linter.all false
set_option maxRecDepth 100000
set_option maxHeartbeats 2000000
set_option autoImplicit false
/-! DL1: deep values over HandS's abstract heap; the state monad of the mirrors; what a reading by deep values is. -/
namespace DL
open PySem PySem.Spec PyProof.Rows L2

abbrev Fr := PySem.W.Frag
abbrev Mg := Str → Option Value

/-- a value with all that it holds -/
inductive D where
  | non | bl (b : Bool) | int (i : Int) | str (x : Str)
  | tup (xs : List D) | lst (xs : List D)
  | obj (c : Str) (ns : List Str) (vs : List D)
  | box
  | scr (ns : List Int)

mutual
/-- holds nothing that can change -/
def D.free : D → Bool
  | .tup xs => freeL xs
  | .lst _ => false
  | .obj _ _ _ => false
  | .box => false
  | .scr _ => false
  | .non => true
  | .bl _ => true
  | .int _ => true
  | .str _ => true
def freeL : List D → Bool
  | [] => true
  | x :: xs => x.free && freeL xs
end

mutual
/-- v shows d in the heap H, and leans on nothing at O -/
inductive Den (K : Fr) (mg : Mg) (bx : Option Addr) (O : List Addr) (H : Hp) : V → D → Prop where
  | non : Den K mg bx O H .non .non
  | bl (b : Bool) : Den K mg bx O H (.bl b) (.bl b)
  | int (i : Int) : Den K mg bx O H (.int i) (.int i)
  | str (x : Str) : Den K mg bx O H (.str x) (.str x)
  | tup {a : Addr} {vs : List V} {ds : List D} (ha : a ∉ O) (h : H a = some (.tup vs)) (r : DenL K mg bx O H vs ds) : Den K mg bx O H (.ref a) (.tup ds)
  | ktup {a : Addr} {vs : List V} {ds : List D} (h : ∀ H', SqT K H' a vs) (r : DenL K mg bx O H vs ds) : Den K mg bx O H (.ref a) (.tup ds)
  | lst {a : Addr} {vs : List V} {ds : List D} (ha : a ∉ O) (h : H a = some (.lst vs)) (r : DenL K mg bx O H vs ds) : Den K mg bx O H (.ref a) (.lst ds)
  | obj {c : Str} {C a dx : Addr} {ns : List Str} {vs : List V} {ds : List D} (ha : a ∉ O) (hc : mg c = some (.ref C)) (h : H a = some (.ins C dx (ns.zip vs))) (hl : ns.length = vs.length)
      (r : DenL K mg bx O H vs ds) : Den K mg bx O H (.ref a) (.obj c ns ds)
  | box {a : Addr} (h : bx = some a) : Den K mg bx O H (.ref a) .box
  | scr {a : Addr} {ns : List Int} {o : Obj} (ha : a ∉ O) (h : H a = some (.frz o (.lst (ns.map V.int)))) : Den K mg bx O H (.ref a) (.scr ns)
  | kscr {a : Addr} {ns : List Int} (h : ∀ H', SqL K H' a (ns.map V.int)) : Den K mg bx O H (.ref a) (.scr ns)
inductive DenL (K : Fr) (mg : Mg) (bx : Option Addr) (O : List Addr) (H : Hp) : List V → List D → Prop where
  | nil : DenL K mg bx O H [] []
  | cons {v : V} {d : D} {vs : List V} {ds : List D} (h : Den K mg bx O H v d) (r : DenL K mg bx O H vs ds) : DenL K mg bx O H (v :: vs) (d :: ds)
end

section
variable {K : Fr} {mg : Mg} {bx bx' : Option Addr} {O O' : List Addr} {H H' : Hp}

/-- what is kept: all but what stands at O -/
def Out (O : List Addr) (H H' : Hp) : Prop := ∀ a o, H a = some o → a ∉ O → H' a = some o

mutual
theorem Den.step {v : V} {d : D} (s : Out O H H') (h : Den K mg bx O H v d) : Den K mg bx O H' v d := by
  match h with
  | .non => exact .non
  | .bl b => exact .bl b
  | .int i => exact .int i
  | .str x => exact .str x
  | .tup ha h r => exact .tup ha (s _ _ h ha) (DenL.step s r)
  | .ktup h r => exact .ktup h (DenL.step s r)
  | .lst ha h r => exact .lst ha (s _ _ h ha) (DenL.step s r)
  | .obj ha hc h hl r => exact .obj ha hc (s _ _ h ha) hl (DenL.step s r)
  | .box h => exact .box h
  | .scr ha h => exact .scr ha (s _ _ h ha)
  | .kscr h => exact .kscr h
theorem DenL.step {vs : List V} {ds : List D} (s : Out O H H') (h : DenL K mg bx O H vs ds) : DenL K mg bx O H' vs ds := by
  match h with
  | .nil => exact .nil
  | .cons h r => exact .cons (Den.step s h) (DenL.step s r)
end
mutual
theorem Den.mono {v : V} {d : D} (s : ∀ a ∈ O', a ∈ O) (h : Den K mg bx O H v d) : Den K mg bx O' H v d := by
  match h with
  | .non => exact .non
  | .bl b => exact .bl b
  | .int i => exact .int i
  | .str x => exact .str x
  | .tup ha h r => exact .tup (fun z => ha (s _ z)) h (DenL.mono s r)
  | .ktup h r => exact .ktup h (DenL.mono s r)
  | .lst ha h r => exact .lst (fun z => ha (s _ z)) h (DenL.mono s r)
  | .obj ha hc h hl r => exact .obj (fun z => ha (s _ z)) hc h hl (DenL.mono s r)
  | .box h => exact .box h
  | .scr ha h => exact .scr (fun z => ha (s _ z)) h
  | .kscr h => exact .kscr h
theorem DenL.mono {vs : List V} {ds : List D} (s : ∀ a ∈ O', a ∈ O) (h : DenL K mg bx O H vs ds) : DenL K mg bx O' H vs ds := by
  match h with
  | .nil => exact .nil
  | .cons h r => exact .cons (Den.mono s h) (DenL.mono s r)
end
mutual
/-- nothing stands at the further addresses -/
theorem Den.more {v : V} {d : D} (s : ∀ a ∈ O', a ∈ O ∨ H a = none) (h : Den K mg bx O H v d) : Den K mg bx O' H v d := by
  have key : ∀ {a : Addr} {o : HO}, a ∉ O → H a = some o → a ∉ O' := fun ha e z => (s _ z).elim ha fun n => by rw [e] at n; cases n
  match h with
  | .non => exact .non
  | .bl b => exact .bl b
  | .int i => exact .int i
  | .str x => exact .str x
  | .tup ha h r => exact .tup (key ha h) h (DenL.more s r)
  | .ktup h r => exact .ktup h (DenL.more s r)
  | .lst ha h r => exact .lst (key ha h) h (DenL.more s r)
  | .obj ha hc h hl r => exact .obj (key ha h) hc h hl (DenL.more s r)
  | .box h => exact .box h
  | .scr ha h => exact .scr (key ha h) h
  | .kscr h => exact .kscr h
theorem DenL.more {vs : List V} {ds : List D} (s : ∀ a ∈ O', a ∈ O ∨ H a = none) (h : DenL K mg bx O H vs ds) : DenL K mg bx O' H vs ds := by
  match h with
  | .nil => exact .nil
  | .cons h r => exact .cons (Den.more s h) (DenL.more s r)
end
mutual
/-- a box is made -/
theorem Den.boxed {v : V} {d : D} (h : Den K mg none O H v d) : Den K mg bx O H v d := by
  match h with
  | .non => exact .non
  | .bl b => exact .bl b
  | .int i => exact .int i
  | .str x => exact .str x
  | .tup ha h r => exact .tup ha h (DenL.boxed r)
  | .ktup h r => exact .ktup h (DenL.boxed r)
  | .lst ha h r => exact .lst ha h (DenL.boxed r)
  | .obj ha hc h hl r => exact .obj ha hc h hl (DenL.boxed r)
  | .box h => cases h
  | .scr ha h => exact .scr ha h
  | .kscr h => exact .kscr h
theorem DenL.boxed {vs : List V} {ds : List D} (h : DenL K mg none O H vs ds) : DenL K mg bx O H vs ds := by
  match h with
  | .nil => exact .nil
  | .cons h r => exact .cons (Den.boxed h) (DenL.boxed r)
end
mutual
/-- what holds nothing that can change leans on tuples alone -/
theorem Den.of_free {v : V} {d : D} (nt : ∀ a ∈ O', ∃ o, H a = some o ∧ ∀ vs, o ≠ .tup vs) (f : d.free = true) (h : Den K mg bx O H v d) : Den K mg bx' O' H v d := by
  match h with
  | .non => exact .non
  | .bl b => exact .bl b
  | .int i => exact .int i
  | .str x => exact .str x
  | .tup ha h r =>
    refine .tup (fun z => ?_) h (DenL.of_free nt (by simpa [D.free] using f) r)
    obtain ⟨o, e, n⟩ := nt _ z
    rw [h] at e; cases e
    exact n _ rfl
  | .ktup h r => exact .ktup h (DenL.of_free nt (by simpa [D.free] using f) r)
  | .lst ha h r => simp [D.free] at f
  | .obj ha hc h hl r => simp [D.free] at f
  | .box h => simp [D.free] at f
  | .scr ha h => simp [D.free] at f
  | .kscr h => simp [D.free] at f
theorem DenL.of_free {vs : List V} {ds : List D} (nt : ∀ a ∈ O', ∃ o, H a = some o ∧ ∀ vs, o ≠ .tup vs) (f : freeL ds = true) (h : DenL K mg bx O H vs ds) : DenL K mg bx' O' H vs ds := by
  match h with
  | .nil => exact .nil
  | .cons (d := d0) (ds := ds0) h r =>
    have f2 : d0.free = true ∧ freeL ds0 = true := by simpa [freeL] using f
    exact .cons (Den.of_free nt f2.1 h) (DenL.of_free nt f2.2 r)
end
theorem DenL.length : ∀ {vs : List V} {ds : List D}, DenL K mg bx O H vs ds → vs.length = ds.length
  | _, _, .nil => rfl
  | _, _, .cons _ r => by simp [DenL.length r]
theorem DenL.get : ∀ {vs : List V} {ds : List D} {i : Nat} {d : D}, DenL K mg bx O H vs ds → ds[i]? = some d → ∃ v, vs[i]? = some v ∧ Den K mg bx O H v d
  | _, _, _, _, .nil, e => by simp at e
  | _, _, 0, _, .cons h _, e => by simp at e; subst e; exact ⟨_, rfl, h⟩
  | _, _, i + 1, d, .cons _ r, e => by
    obtain ⟨v, h1, h2⟩ := DenL.get (i := i) (d := d) r (by simpa using e)
    exact ⟨v, by simpa using h1, h2⟩
theorem DenL.getV : ∀ {vs : List V} {ds : List D} {i : Nat} {v : V}, DenL K mg bx O H vs ds → vs[i]? = some v → ∃ d, ds[i]? = some d ∧ Den K mg bx O H v d
  | _, _, _, _, .nil, e => by simp at e
  | _, _, 0, _, .cons h _, e => by simp at e; subst e; exact ⟨_, rfl, h⟩
  | _, _, i + 1, v, .cons _ r, e => by
    obtain ⟨d, h1, h2⟩ := DenL.getV (i := i) (v := v) r (by simpa using e)
    exact ⟨d, by simpa using h1, h2⟩
theorem DenL.append : ∀ {vs ws : List V} {ds es : List D}, DenL K mg bx O H vs ds → DenL K mg bx O H ws es → DenL K mg bx O H (vs ++ ws) (ds ++ es)
  | _, _, _, _, .nil, s => s
  | _, _, _, _, .cons h r, s => .cons h (DenL.append r s)
theorem DenL.take : ∀ {vs : List V} {ds : List D} (n : Nat), DenL K mg bx O H vs ds → DenL K mg bx O H (vs.take n) (ds.take n)
  | _, _, 0, _ => .nil
  | _, _, _ + 1, .nil => .nil
  | _, _, n + 1, .cons h r => .cons h (DenL.take n r)
theorem DenL.drop : ∀ {vs : List V} {ds : List D} (n : Nat), DenL K mg bx O H vs ds → DenL K mg bx O H (vs.drop n) (ds.drop n)
  | _, _, 0, r => r
  | _, _, _ + 1, .nil => .nil
  | _, _, n + 1, .cons _ r => DenL.drop n r
theorem DenL.set {v : V} {d : D} (h : Den K mg bx O H v d) : ∀ {vs : List V} {ds : List D} (i : Nat), DenL K mg bx O H vs ds → DenL K mg bx O H (vs.set i v) (ds.set i d)
  | _, _, _, .nil => .nil
  | _, _, 0, .cons _ r => .cons h r
  | _, _, i + 1, .cons q r => .cons q (DenL.set h i r)
theorem DenL.reverse {vs : List V} {ds : List D} (h : DenL K mg bx O H vs ds) : DenL K mg bx O H vs.reverse ds.reverse := by
  induction h using DenL.rec (motive_1 := fun _ _ _ => True) with
  | nil => exact .nil
  | cons h r _ ih =>
    rw [List.reverse_cons, List.reverse_cons]
    exact DenL.append ih (.cons h .nil)
  | _ => trivial
theorem DenL.dropLast : ∀ {vs : List V} {ds : List D}, DenL K mg bx O H vs ds → DenL K mg bx O H vs.dropLast ds.dropLast
  | _, _, .nil => .nil
  | _, _, .cons _ .nil => .nil
  | _, _, .cons h (.cons h2 r) => .cons h (DenL.dropLast (.cons h2 r))
theorem DenL.rep {v : V} {d : D} (h : Den K mg bx O H v d) : ∀ n : Nat, DenL K mg bx O H (List.replicate n v) (List.replicate n d)
  | 0 => .nil
  | n + 1 => .cons h (DenL.rep h n)
theorem DenL.flat {vs : List V} {ds : List D} (h : DenL K mg bx O H vs ds) : ∀ n : Nat, DenL K mg bx O H (List.replicate n vs).flatten (List.replicate n ds).flatten
  | 0 => .nil
  | n + 1 => by
    rw [List.replicate_succ, List.replicate_succ, List.flatten_cons, List.flatten_cons]
    exact DenL.append h (DenL.flat h n)
theorem DenL.ints : ∀ ns : List Int, DenL K mg bx O H (ns.map V.int) (ns.map D.int)
  | [] => .nil
  | n :: r => .cons (.int n) (DenL.ints r)
theorem DenL.strs : ∀ ns : List Str, DenL K mg bx O H (ns.map V.str) (ns.map D.str)
  | [] => .nil
  | n :: r => .cons (.str n) (DenL.strs r)
theorem DenL.of_ints : ∀ {ns : List Int} {vs : List V}, DenL K mg bx O H vs (ns.map D.int) → vs = ns.map V.int
  | [], _, h => by cases h; rfl
  | n :: r, _, .cons h t => by cases h; rw [DenL.of_ints t]; rfl
theorem DenL.of_bls : ∀ {ns : List Bool} {vs : List V}, DenL K mg bx O H vs (ns.map D.bl) → vs = ns.map V.bl
  | [], _, h => by cases h; rfl
  | n :: r, _, .cons h t => by cases h; rw [DenL.of_bls t]; rfl
theorem DenL.of_strs : ∀ {ns : List Str} {vs : List V}, DenL K mg bx O H vs (ns.map D.str) → vs = ns.map V.str
  | [], _, h => by cases h; rfl
  | n :: r, _, .cons h t => by cases h; rw [DenL.of_strs t]; rfl
/-- a new tuple, a new list -/
theorem Out.new {p : Addr} {o : HO} (hn : H p = none) : Out O H (upd H p o) := fun a u e _ => by
  rw [upd_ne (ne_of_none e hn)]; exact e
theorem Out.refl : Out O H H := fun _ _ e _ => e
theorem Out.trans {H1 : Hp} (a : Out O H H1) (b : Out O H1 H') : Out O H H' := fun c o e n => b c o (a c o e n) n
theorem Out.wide (a : Out O H H') (s : ∀ b ∈ O, b ∈ O') : Out O' H H' := fun c o e n => a c o e fun z => n (s c z)
end

/-! ### the monad of the mirrors: the state is what the drawing box holds -/
abbrev Om := List Int × List Int
inductive Res (α : Type) where
  | ok (a : α) (ω : Om)
  | exc (c : Str) (fs : List (Str × D)) (ω : Om)
  | bad
structure M (α : Type) where
  run : Om → Res α
namespace M
def pure {α : Type} (a : α) : M α := ⟨fun ω => .ok a ω⟩
def bind {α β : Type} (m : M α) (f : α → M β) : M β := ⟨fun ω => match m.run ω with
  | .ok a ω' => (f a).run ω'
  | .exc c fs ω' => .exc c fs ω'
  | .bad => .bad⟩
def bad {α : Type} : M α := ⟨fun _ => .bad⟩
def raise {α : Type} (c : Str) (fs : List (Str × D)) : M α := ⟨fun ω => .exc c fs ω⟩
end M
instance : Monad M where
  pure := M.pure
  bind := M.bind
theorem M.ext {α : Type} {m n : M α} (h : ∀ ω, m.run ω = n.run ω) : m = n := by
  cases m; cases n
  exact congrArg M.mk (funext h)
theorem M.pure_run {α : Type} (a : α) (ω : Om) : (Pure.pure a : M α).run ω = .ok a ω := rfl
theorem M.bind_run {α β : Type} (m : M α) (f : α → M β) (ω : Om) : (m >>= f).run ω = match m.run ω with
  | .ok a ω' => (f a).run ω'
  | .exc c fs ω' => .exc c fs ω'
  | .bad => .bad := rfl
instance : LawfulMonad M := LawfulMonad.mk' M (id_map := fun x => by
    refine M.ext fun ω => ?_
    show (match x.run ω with | .ok a ω' => _ | .exc c fs ω' => _ | .bad => _) = x.run ω
    cases x.run ω <;> rfl) (pure_bind := fun _ _ => rfl) (bind_assoc := fun x f g => by
    refine M.ext fun ω => ?_
    simp only [M.bind_run]
    cases x.run ω <;> rfl)
def ofOpt {α : Type} : Option α → M α
  | some a => pure a
  | none => M.bad
@[simp] theorem ofOpt_some {α : Type} (a : α) : ofOpt (some a) = (pure a : M α) := rfl
@[simp] theorem bad_bind {α β : Type} (f : α → M β) : (M.bad >>= f) = M.bad := rfl
@[simp] theorem raise_bind {α β : Type} (c : Str) (fs : List (Str × D)) (f : α → M β) : (M.raise c fs >>= f) = M.raise c fs := rfl

/-! ### slots -/
inductive Sl where
  | no
  | val (d : D)
  | own (d : D)
  | exn (fs : List (Str × D))
abbrev Sls := List Sl
def Sl.get : Sl → Option D
  | .val d => some d
  | .own d => some d
  | _ => none
end DL
end

section
set_option Elab.async false
set_option linter.all false
set_option maxRecDepth 100000
set_option maxHeartbeats 2000000
set_option autoImplicit false
/-! DL2: the states of a mirror's run, readings by deep values, the rules for expressions. -/
namespace DL
open PySem PySem.Spec PyProof.Rows L2

/-- the box's own address -/
def bxl : Option Addr → List Addr
  | none => []
  | some a => [a]
/-- what stands at O can change; the box shows ω -/
structure Good (bx : Option Addr) (O : List Addr) (H : Hp) (ω : Om) : Prop where
  nt : ∀ a ∈ O, ∃ o, H a = some o ∧ ∀ vs, o ≠ .tup vs
  bx : ∀ a, bx = some a → a ∈ O ∧ ∃ a0, a0 ∉ O ∧ H a0 = some (.lst (ω.1.map V.int)) ∧ H a = some (.lst (.ref a0 :: ω.2.map V.int))
/-- from H to H': all is kept but what stands at L and the box, whose script is the same or a new one -/
structure Stp (bx : Option Addr) (L : List Addr) (H H' : Hp) : Prop where
  keep : Out (bxl bx ++ L) H H'
  live : ∀ a o, H a = some o → ∃ o', H' a = some o'
  bxk : ∀ a, bx = some a → ∀ a0 vs, H a = some (.lst (.ref a0 :: vs)) → ∃ a1 vs1, H' a = some (.lst (.ref a1 :: vs1)) ∧ (a1 = a0 ∨ H a1 = none)
section
variable {K : Fr} {mg : Mg} {bx : Option Addr} {O O' L L1 : List Addr} {H H1 H2 H' : Hp} {ω ω' : Om}
theorem Stp.refl : Stp bx L H H := ⟨fun _ _ e _ => e, fun _ o e => ⟨o, e⟩, fun _ _ a0 vs e => ⟨a0, vs, e, .inl rfl⟩⟩
theorem Stp.of_out (s : Out [] H H') : Stp bx L H H' := ⟨fun a o e _ => s a o e (by simp), fun a o e => ⟨o, s a o e (by simp)⟩, fun a _ a0 vs e => ⟨a0, vs, s a _ e (by simp), .inl rfl⟩⟩
theorem Stp.trans (a : Stp bx L H H1) (b : Stp bx L1 H1 H2) (h : ∀ c ∈ L1, c ∈ L ∨ H c = none) : Stp bx L H H2 := by
  refine ⟨fun c o e n => ?_, fun c o e => ?_, fun c hc a0 vs e => ?_⟩
  · refine b.keep c o (a.keep c o e n) fun z => ?_
    rcases List.mem_append.mp z with z | z
    · exact n (List.mem_append_left _ z)
    · rcases h c z with z | z
      · exact n (List.mem_append_right _ z)
      · rw [e] at z; cases z
  · obtain ⟨o1, e1⟩ := a.live c o e
    exact b.live c o1 e1
  · obtain ⟨a1, vs1, e1, h1⟩ := a.bxk c hc a0 vs e
    obtain ⟨a2, vs2, e2, h2⟩ := b.bxk c hc a1 vs1 e1
    refine ⟨a2, vs2, e2, ?_⟩
    rcases h2 with h2 | h2
    · rw [h2]; exact h1
    · refine .inr ?_
      cases q : H a2 with
      | none => rfl
      | some o =>
        obtain ⟨o', e'⟩ := a.live a2 o q
        rw [h2] at e'; cases e'
theorem Stp.trans0 (a : Stp bx L H H1) (b : Stp bx [] H1 H2) : Stp bx L H H2 := a.trans b fun _ z => by cases z
theorem Stp.wide (a : Stp bx L H H1) (h : ∀ c ∈ L, c ∈ L1) : Stp bx L1 H H1 :=
  ⟨a.keep.wide fun b z => (List.mem_append.mp z).elim (fun z => List.mem_append_left _ z) fun z => List.mem_append_right _ (h b z), a.live, a.bxk⟩
theorem Good.sub (g : Good bx O H ω) : ∀ a ∈ bxl bx, a ∈ O := fun a h => by
  cases bx with
  | none => cases h
  | some b =>
    have e : a = b := by simpa [bxl] using h
    rw [e]
    exact (g.bx b rfl).1
/-- what is kept, for values that lean on nothing at O -/
theorem Stp.out (s : Stp bx L H H') (g : Good bx O H ω) (h : ∀ a ∈ L, a ∈ O) : Out O H H' := s.keep.wide fun a z => (List.mem_append.mp z).elim (fun z => g.sub a z) (h a)
theorem Stp.out0 (s : Stp bx [] H H') (g : Good bx O H ω) : Out O H H' := s.out g fun _ z => by cases z
theorem Good.out (g : Good bx O H ω) (s : Out [] H H') : Good bx O H' ω := ⟨fun a h => let ⟨o, e, n⟩ := g.nt a h; ⟨o, s a o e (by simp), n⟩, fun a e => let ⟨h, a0, n, e0, e1⟩ := g.bx a e; ⟨h, a0, n, s _ _ e0 (by simp), s _ _ e1 (by simp)⟩⟩
end

/-- the slots show the mirror's -/
structure EnvOk (K : Fr) (mg : Mg) (bx : Option Addr) (ea : Option (Addr × Addr)) (O : List Addr) (H : Hp) (σ : L2.St) (ρ : Sls) : Prop where
  len : σ.length = ρ.length
  val : ∀ (i : Nat) (s : Sl) (d : D), ρ[i]? = some s → s.get = some d → ∃ v, σ[i]? = some (some v) ∧ Den K mg bx O H v d
  exn : ∀ (i : Nat) (fs : List (Str × D)), ρ[i]? = some (.exn fs) → ∃ a dd gs, ea = some (a, dd) ∧ σ[i]? = some (some (.ref a)) ∧ dd ∉ O ∧ H dd = some (.xd gs) ∧ Paired (fun (p : Str × V) (q : Str × D) => p.1 = q.1 ∧ Den K mg bx O H p.2 q.2) gs fs
theorem EnvOk.step {K : Fr} {mg : Mg} {bx : Option Addr} {ea : Option (Addr × Addr)} {O : List Addr} {H H' : Hp} {σ : L2.St} {ρ : Sls} (e : EnvOk K mg bx ea O H σ ρ) (s : Out O H H') : EnvOk K mg bx ea O H' σ ρ :=
  ⟨e.len, fun i sl d h1 h2 => let ⟨v, h3, h4⟩ := e.val i sl d h1 h2; ⟨v, h3, h4.step s⟩, fun i fs h1 => let ⟨a, dd, gs, h2, h3, h4, h5, h6⟩ := e.exn i fs h1
    ⟨a, dd, gs, h2, h3, h4, s _ _ h5 h4, Paired.mapP h6 fun p q z => ⟨z.1, z.2.step s⟩⟩⟩

/-- what a result of a mirror asks -/
def RetG {α β : Type} (K : Fr) (mg : Mg) (W : WX) (bx : Option Addr) (O : List Addr) (σ : L2.St) (H : Hp) (rel : Hp → β → α → Prop) (Q : β → Hp → Prop) : Res α → Prop
  | .ok d ω' => ∀ v H', Stp bx [] H H' → Good bx O H' ω' → rel H' v d → Q v H'
  | .exc c fs ω' => ∀ C dd gs H', mg c = some (.ref C) → Stp bx [] H H' → Good bx O H' ω' → dd ∉ O → H' dd = some (.xd gs) → Paired (fun (p : Str × V) (q : Str × D) => p.1 = q.1 ∧ Den K mg bx O H' p.2 q.2) gs fs → W (.ref C) (some dd) σ H'
  | .bad => False
/-- a reading by a mirror -/
def tG {α β : Type} (K : Fr) (mg : Mg) (W : WX) (ea : Option (Addr × Addr)) (rel : Option Addr → List Addr → Hp → β → α → Prop) (f : Sls → M α) : L2.St → Hp → (β → Hp → Prop) → Prop := fun σ H Q =>
  ∃ bx O ω ρ, EnvOk K mg bx ea O H σ ρ ∧ Good bx O H ω ∧ RetG K mg W bx O σ H (rel bx O) Q ((f ρ).run ω)
abbrev relD (K : Fr) (mg : Mg) (bx : Option Addr) (O : List Addr) (H : Hp) (v : V) (d : D) : Prop := Den K mg bx O H v d
abbrev relL (K : Fr) (mg : Mg) (bx : Option Addr) (O : List Addr) (H : Hp) (v : List V) (d : List D) : Prop := DenL K mg bx O H v d
abbrev relB (bx : Option Addr) (O : List Addr) (H : Hp) (v : Bool) (d : Bool) : Prop := v = d
abbrev relO (bx : Option Addr) (O : List Addr) (H : Hp) (v : Option Int) (d : Option Int) : Prop := v = d
abbrev tE (K : Fr) (mg : Mg) (W : WX) (ea : Option (Addr × Addr)) (f : Sls → M D) : TE := tG K mg W ea (relD K mg) f
abbrev tT (K : Fr) (mg : Mg) (W : WX) (ea : Option (Addr × Addr)) (f : Sls → M Bool) : TT := tG K mg W ea relB f
abbrev tA (K : Fr) (mg : Mg) (W : WX) (ea : Option (Addr × Addr)) (f : Sls → M (List D)) : TA := tG K mg W ea (relL K mg) f
abbrev tO (K : Fr) (mg : Mg) (W : WX) (ea : Option (Addr × Addr)) (f : Sls → M (Option Int)) : TO := tG K mg W ea relO f

section
variable {K : Fr} {mg : Mg} {W : WX} {ea : Option (Addr × Addr)} {bx : Option Addr} {O : List Addr} {σ : L2.St} {H : Hp} {ω : Om} {ρ : Sls}
theorem RetG.mono {α β : Type} {rel : Hp → β → α → Prop} {Q Q' : β → Hp → Prop} {r : Res α} (h : RetG K mg W bx O σ H rel Q r) (k : ∀ v H', Q v H' → Q' v H') : RetG K mg W bx O σ H rel Q' r := by
  cases r with
  | ok d ω' => exact fun v H' s g r => k v H' (h v H' s g r)
  | exc c fs ω' => exact h
  | bad => exact h
/-- from a later heap -/
theorem RetG.later {α β : Type} {rel : Hp → β → α → Prop} {Q : β → Hp → Prop} {r : Res α} {H1 : Hp} (h : RetG K mg W bx O σ H rel Q r) (s : Stp bx [] H H1) : RetG K mg W bx O σ H1 rel Q r := by
  cases r with
  | ok d ω' => exact fun v H' s' g r => h v H' (s.trans0 s') g r
  | exc c fs ω' => exact fun C dd gs H' hm s' g hd => h C dd gs H' hm (s.trans0 s') g hd
  | bad => exact h
/-- one after the other -/
theorem tG_bind {α β γ δ : Type} {rel : Option Addr → List Addr → Hp → β → α → Prop} {rel' : Option Addr → List Addr → Hp → δ → γ → Prop} {f : Sls → M α} {g : α → Sls → M γ} {Q : δ → Hp → Prop} {Q1 : β → Hp → Prop}
    (h : tG K mg W ea rel' (fun ρ => f ρ >>= fun a => g a ρ) σ H Q)
    (k : ∀ bx O ω ρ v d H1, EnvOk K mg bx ea O H1 σ ρ → Good bx O H1 ω → rel bx O H1 v d → RetG K mg W bx O σ H1 (rel' bx O) Q ((g d ρ).run ω) → Q1 v H1) : tG K mg W ea rel f σ H Q1 := by
  obtain ⟨bx, O, ω, ρ, he, hg, hr⟩ := h
  refine ⟨bx, O, ω, ρ, he, hg, ?_⟩
  rw [M.bind_run] at hr
  cases e : (f ρ).run ω with
  | ok d ω1 =>
    rw [e] at hr
    intro v H1 s1 g1 r1
    exact k bx O ω1 ρ v d H1 (he.step (s1.out0 hg)) g1 r1 (RetG.later hr s1)
  | exc c fs ω1 => rw [e] at hr; exact hr
  | bad => rw [e] at hr; exact hr
theorem tG_pure {α β : Type} {rel : Hp → β → α → Prop} {Q : β → Hp → Prop} {d : α} {v : β} (h : RetG K mg W bx O σ H rel Q ((pure d : M α).run ω)) (g : Good bx O H ω) (r : rel H v d) : Q v H := h v H Stp.refl g r
theorem tG_new {α β : Type} {rel : Hp → β → α → Prop} {Q : β → Hp → Prop} {d : α} {v : β} {H' : Hp} (h : RetG K mg W bx O σ H rel Q ((pure d : M α).run ω)) (s : Out [] H H') (g : Good bx O H ω) (r : rel H' v d) : Q v H' :=
  h v H' (Stp.of_out s) (g.out s) r
theorem retG_opt {α β : Type} {rel : Hp → β → α → Prop} {Q : β → Hp → Prop} {o : Option α} (h : RetG K mg W bx O σ H rel Q ((ofOpt o : M α).run ω)) : ∃ d, o = some d ∧ RetG K mg W bx O σ H rel Q ((pure d : M α).run ω) := by
  cases o with
  | none => exact h.elim
  | some d => exact ⟨d, rfl, h⟩
end

/-! ### the judgements -/
variable {X : Cx}
abbrev DE (X : Cx) (W : WX) (ea : Option (Addr × Addr)) (e : Expr) (f : Sls → M D) : Prop := PE X e (tE X.K X.mg W ea f)
abbrev DT (X : Cx) (W : WX) (ea : Option (Addr × Addr)) (e : Expr) (f : Sls → M Bool) : Prop := PT X e (tT X.K X.mg W ea f)
abbrev DA (X : Cx) (W : WX) (ea : Option (Addr × Addr)) (es : List Expr) (f : Sls → M (List D)) : Prop := PA X es (tA X.K X.mg W ea f)
theorem pe_weak {X : Cx} {e : Expr} {t t' : TE} (h : PE X e t) (w : ∀ σ H Q, t' σ H Q → t σ H Q) : PE X e t' := ⟨fun pins s σ H Q I hq => h.run pins s σ H Q I (w σ H Q hq)⟩
theorem pt_weak {X : Cx} {e : Expr} {t t' : TT} (h : PT X e t) (w : ∀ σ H Q, t' σ H Q → t σ H Q) : PT X e t' := ⟨fun pins s σ H Q I hq => h.run pins s σ H Q I (w σ H Q hq)⟩
theorem pw_weak {X : Cx} {e : Expr} {t t' : TT} (h : PW X e t) (w : ∀ σ H Q, t' σ H Q → t σ H Q) : PW X e t' := ⟨fun wh pins s σ H Q I hq => h.run wh pins s σ H Q I (w σ H Q hq)⟩
theorem pa_weak {X : Cx} {es : List Expr} {t t' : TA} (h : PA X es t) (w : ∀ σ H Q, t' σ H Q → t σ H Q) : PA X es t' := ⟨fun pos pins s σ H Q I hq => h.run pos pins s σ H Q I (w σ H Q hq)⟩

section
variable {X : Cx} {W : WX} {ea : Option (Addr × Addr)} {a b c e : Expr} {es : List Expr} {f g k : Sls → M D} {pos : Pos}

/-! ### names, constants -/
def eVar (i : Nat) : Sls → M D := fun ρ => ofOpt ((ρ[i]?).bind Sl.get)
theorem de_var (i : Nat) {x : Str} (hN : X.N[i]? = some x := by rfl) (hv : Vis X.env.scope x := by first | exact Or.inl rfl | exact Or.inr (Or.inl rfl) | exact Or.inr (Or.inr rfl)) (hd : (x == ("__debug__" : Str)) = false := by decide)
    (hcd : (x == ("__classdict__" : Str)) = false := by decide) : DE X W ea (.Name x pos) (eVar i) := by
  refine pe_weak (pe_var hN hv hd hcd) fun σ H Q h => ?_
  obtain ⟨bx, O, ω, ρ, he, hg, hr⟩ := h
  obtain ⟨d, e, hr⟩ := retG_opt hr
  obtain ⟨s, e1, e2⟩ := Option.bind_eq_some_iff.mp e
  obtain ⟨v, h1, h2⟩ := he.val i s d e1 e2
  exact ⟨v, h1, tG_pure hr hg h2⟩
def eC (d : D) : Sls → M D := fun _ => pure d
theorem de_c {v : V} {d : D} (hd : ∀ bx O H, Den X.K X.mg bx O H v d) (h : PE X e (tC v)) : DE X W ea e (eC d) := by
  refine pe_weak h fun σ H Q h => ?_
  obtain ⟨bx, O, ω, ρ, he, hg, hr⟩ := h
  exact tG_pure hr hg (hd bx O H)
theorem de_int {i j} : DE X W ea (.Constant (.int i) j pos) (eC (.int i)) := de_c (fun _ _ _ => .int i) pe_int
theorem de_bl {i j} : DE X W ea (.Constant (.bool i) j pos) (eC (.bl i)) := de_c (fun _ _ _ => .bl i) pe_bl
theorem de_str {i j} : DE X W ea (.Constant (.str i) j pos) (eC (.str i)) := de_c (fun _ _ _ => .str i) pe_str
theorem de_non {j} : DE X W ea (.Constant .none j pos) (eC .non) := de_c (fun _ _ _ => .non) pe_non

/-! ### operators by values -/
/-- what a two-place operation on deep values asks -/
def rD (K : Fr) (mg : Mg) (op : D → D → Option D) : R2 := fun x y H Q => ∃ bx O d1 d2 d, op d1 d2 = some d ∧ (∀ a ∈ O, ∃ o, H a = some o ∧ ∀ vs, o ≠ .tup vs) ∧ Den K mg bx O H x d1 ∧ Den K mg bx O H y d2 ∧ ∀ v H', Out [] H H' → Den K mg bx O H' v d → Q v H'
def eBin (op : D → D → Option D) (f g : Sls → M D) : Sls → M D := fun ρ => f ρ >>= fun x => g ρ >>= fun y => ofOpt (op x y)
theorem bin_go {op : D → D → Option D} {σ : L2.St} {H : Hp} {Q : VK} (h : tE X.K X.mg W ea (eBin op f g) σ H Q) : tOp (rD X.K X.mg op) (tE X.K X.mg W ea f) (tE X.K X.mg W ea g) σ H Q := by
  refine tG_bind h fun bx O ω ρ x d1 H1 he hg hx hr => ?_
  have h1 : tE X.K X.mg W ea (fun ρ' => g ρ' >>= fun y => ofOpt (op d1 y)) σ H1 (fun v H' => Q v H') := ⟨bx, O, ω, ρ, he, hg, hr⟩
  -- y is reckoned behind x: x's value stays
  refine ⟨bx, O, ω, ρ, he, hg, ?_⟩
  rw [M.bind_run] at hr
  cases e : (g ρ).run ω with
  | ok d2 ω1 =>
    rw [e] at hr
    intro y H2 s2 g2 hy
    obtain ⟨d, eo, hr⟩ := retG_opt (RetG.later hr s2)
    exact ⟨bx, O, d1, d2, d, eo, g2.nt, hx.step (s2.out0 hg), hy, fun v H' s' hv => tG_new hr s' g2 hv⟩
  | exc c fs ω1 => rw [e] at hr; exact hr
  | bad => rw [e] at hr; exact hr
theorem de_bin {o : Operator} {op : D → D → Option D} (ho : OpR X (binaryOp o) (rD X.K X.mg op)) (ha : DE X W ea a f) (hb : DE X W ea b g) : DE X W ea (.BinOp a o b pos) (eBin op f g) :=
  pe_weak (pe_op ho ha hb) fun σ H Q h => bin_go h
theorem de_cmp {o : CmpOp} {op : D → D → Option D} (ho : OpR X (compareOp o) (rD X.K X.mg op)) (ha : DE X W ea a f) (hb : DE X W ea b g) (hm : behindInMarks o b = false) : DE X W ea (.Compare a [o] [b] pos) (eBin op f g) :=
  pe_weak (pe_cmpR ho ha hb hm) fun σ H Q h => bin_go h
/-- a truth value -/
def asB : D → Option Bool
  | .bl b => some b
  | _ => none
/-- a comparison as a test -/
def cBin (op : D → D → Option Bool) (f g : Sls → M D) : Sls → M Bool := fun ρ => f ρ >>= fun x => g ρ >>= fun y => ofOpt (op x y)
theorem dt_cmp {o : CmpOp} {op : D → D → Option Bool} (ho : OpR X (compareOp o) (rD X.K X.mg fun x y => (op x y).map D.bl)) (ha : DE X W ea a f) (hb : DE X W ea b g) (hm : behindInMarks o b = false) :
    DT X W ea (.Compare a [o] [b] pos) (cBin op f g) := by
  refine pt_weak (pt_cmpR ho ha hb hm) fun σ H Q h => ?_
  have h2 : tE X.K X.mg W ea (eBin (fun x y => (op x y).map D.bl) f g) σ H (fun v H' => ∃ k, v = .bl k ∧ Q k H') := by
    obtain ⟨bx, O, ω, ρ, he, hg, hr⟩ := h
    refine ⟨bx, O, ω, ρ, he, hg, ?_⟩
    have hr : RetG _ _ _ _ _ _ _ _ _ ((f ρ >>= fun x => g ρ >>= fun y => ofOpt (op x y)).run ω) := hr
    show RetG _ _ _ _ _ _ _ _ _ ((f ρ >>= fun x => g ρ >>= fun y => ofOpt ((op x y).map D.bl)).run ω)
    simp only [M.bind_run] at hr ⊢
    cases e : (f ρ).run ω with
    | ok d1 ω1 =>
      rw [e] at hr
      dsimp only at hr ⊢
      cases e2 : (g ρ).run ω1 with
      | ok d2 ω2 =>
        rw [e2] at hr
        dsimp only at hr ⊢
        cases e3 : op d1 d2 with
        | none => rw [e3] at hr; exact hr.elim
        | some t =>
          rw [e3] at hr
          intro v H' s g' r
          cases r
          exact ⟨t, rfl, hr t H' s g' rfl⟩
      | exc c fs ω1 => rw [e2] at hr; exact hr
      | bad => rw [e2] at hr; exact hr
    | exc c fs ω1 => rw [e] at hr; exact hr
    | bad => rw [e] at hr; exact hr
  exact bin_go h2

/-- a one-place operation -/
def rD1 (K : Fr) (mg : Mg) (op : D → Option D) : V → Hp → VK → Prop := fun x H Q => ∃ bx O d1 d, op d1 = some d ∧ (∀ a ∈ O, ∃ o, H a = some o ∧ ∀ vs, o ≠ .tup vs) ∧ Den K mg bx O H x d1 ∧ ∀ v H', Out [] H H' → Den K mg bx O H' v d → Q v H'
def eUn (op : D → Option D) (f : Sls → M D) : Sls → M D := fun ρ => f ρ >>= fun x => ofOpt (op x)
theorem un_go {op : D → Option D} {σ : L2.St} {H : Hp} {Q : VK} (h : tE X.K X.mg W ea (eUn op f) σ H Q) : tE X.K X.mg W ea f σ H fun x H1 => rD1 X.K X.mg op x H1 Q := by
  refine tG_bind h fun bx O ω ρ x d1 H1 he hg hx hr => ?_
  obtain ⟨d, eo, hr⟩ := retG_opt hr
  exact ⟨bx, O, d1, d, eo, hg.nt, hx, fun v H' s' hv => tG_new hr s' hg hv⟩
theorem de_un {o : UnaryOp} {op : D → Option D} (ho : UnR X (unaryOp o) (rD1 X.K X.mg op)) (ha : DE X W ea a f) : DE X W ea (.UnaryOp o a pos) (eUn op f) :=
  pe_weak (pe_un ho ha) fun σ H Q h => un_go h

/-! ### argument lists, displays -/
def aNil : Sls → M (List D) := fun _ => pure []
def aCons (f : Sls → M D) (r : Sls → M (List D)) : Sls → M (List D) := fun ρ => f ρ >>= fun x => r ρ >>= fun xs => pure (x :: xs)
theorem da_nil : DA X W ea [] aNil := pa_weak pa_nil fun σ H Q h => by
  obtain ⟨bx, O, ω, ρ, he, hg, hr⟩ := h
  exact tG_pure hr hg .nil
theorem da_cons {r : Sls → M (List D)} (he : DE X W ea e f) (hr : DA X W ea es r) (hs : starEach (e :: es) X.env = (false, eval e X.env) :: starEach es X.env := by rfl) : DA X W ea (e :: es) (aCons f r) := by
  refine pa_weak (pa_cons he hr hs) fun σ H Q h => ?_
  refine tG_bind h fun bx O ω ρ x d1 H1 he hg hx hr => ?_
  refine ⟨bx, O, ω, ρ, he, hg, ?_⟩
  rw [M.bind_run] at hr
  cases e : (r ρ).run ω with
  | ok ds ω1 =>
    rw [e] at hr
    intro ys H2 s2 g2 hy
    exact hr _ H2 s2 g2 (.cons (hx.step (s2.out0 hg)) hy)
  | exc c fs ω1 => rw [e] at hr; exact hr
  | bad => rw [e] at hr; exact hr
def eTup (r : Sls → M (List D)) : Sls → M D := fun ρ => r ρ >>= fun xs => ofOpt (if xs.length ≤ 16000000 then some (.tup xs) else none)
def eLst (r : Sls → M (List D)) : Sls → M D := fun ρ => r ρ >>= fun xs => ofOpt (if xs.length ≤ 16000000 then some (.lst xs) else none)
theorem line16 {n : Nat} (h : n ≤ 16000000) : n ≤ sizeLine := by rw [sizeLine_eq]; omega
theorem ite_some {α : Type} {c : Prop} [Decidable c] {x d : α} (h : (if c then some x else none) = some d) : c ∧ x = d := by
  by_cases z : c
  · rw [if_pos z] at h; exact ⟨z, Option.some.inj h⟩
  · rw [if_neg z] at h; cases h
theorem de_tup {x1} {r : Sls → M (List D)} (h : DA X W ea es r) : DE X W ea (.Tuple es x1 pos) (eTup r) := by
  refine pe_weak (pe_tup h) fun σ H Q h => ?_
  refine tG_bind h fun bx O ω ρ x d1 H1 he hg hx hr => ?_
  obtain ⟨d, eo, hr⟩ := retG_opt hr
  obtain ⟨hl, rfl⟩ := ite_some eo
  refine ⟨line16 (by rw [hx.length]; exact hl), fun p hp => ?_⟩
  exact tG_new hr (Out.new hp) hg (.tup (fun z => by obtain ⟨o, e, _⟩ := hg.nt p z; rw [hp] at e; cases e) upd_same (hx.step (Out.new hp)))
theorem de_lst {r : Sls → M (List D)} (h : DA X W ea es r) : DE X W ea (.List es pos) (eLst r) := by
  refine pe_weak (pe_lst h) fun σ H Q h => ?_
  refine tG_bind h fun bx O ω ρ x d1 H1 he hg hx hr => ?_
  obtain ⟨d, eo, hr⟩ := retG_opt hr
  obtain ⟨hl, rfl⟩ := ite_some eo
  refine ⟨line16 (by rw [hx.length]; exact hl), fun p hp => ?_⟩
  exact tG_new hr (Out.new hp) hg (.lst (fun z => by obtain ⟨o, e, _⟩ := hg.nt p z; rw [hp] at e; cases e) upd_same (hx.step (Out.new hp)))

/-! ### tests -/
def cAnd (p q : Sls → M Bool) : Sls → M Bool := fun ρ => p ρ >>= fun b => if b then q ρ else pure false
def cOr (p q : Sls → M Bool) : Sls → M Bool := fun ρ => p ρ >>= fun b => if b then pure true else q ρ
def cNot (p : Sls → M Bool) : Sls → M Bool := fun ρ => p ρ >>= fun b => pure (!b)
def eIf (p : Sls → M Bool) (f g : Sls → M D) : Sls → M D := fun ρ => p ρ >>= fun b => if b then f ρ else g ρ
variable {p q : Sls → M Bool}
abbrev DW (X : Cx) (W : WX) (ea : Option (Addr × Addr)) (e : Expr) (f : Sls → M Bool) : Prop := PW X e (tT X.K X.mg W ea f)
theorem dw_and1 (ha : DT X W ea a p) : DW X W ea (.BoolOp .And [a] pos) p := pw_and1 ha
theorem dw_or1 (ha : DT X W ea a p) : DW X W ea (.BoolOp .Or [a] pos) p := pw_or1 ha
theorem dw_and (ha : DT X W ea a p) (hb : DW X W ea (.BoolOp .And (b :: es) pos) q) : DW X W ea (.BoolOp .And (a :: b :: es) pos) (cAnd p q) := by
  refine pw_weak (pw_and ha hb) fun σ H Q h => ?_
  refine tG_bind h fun bx O ω ρ x d1 H1 he hg hx hr => ?_
  cases hx
  cases x with
  | true => exact ⟨bx, O, ω, ρ, he, hg, hr⟩
  | false => exact tG_pure hr hg rfl
theorem dw_or (ha : DT X W ea a p) (hb : DW X W ea (.BoolOp .Or (b :: es) pos) q) : DW X W ea (.BoolOp .Or (a :: b :: es) pos) (cOr p q) := by
  refine pw_weak (pw_or ha hb) fun σ H Q h => ?_
  refine tG_bind h fun bx O ω ρ x d1 H1 he hg hx hr => ?_
  cases hx
  cases x with
  | true => exact tG_pure hr hg rfl
  | false => exact ⟨bx, O, ω, ρ, he, hg, hr⟩
theorem dt_w (h : DW X W ea e p) : DT X W ea e p := PW.pt h
theorem dt_not (ha : DT X W ea a p) : DT X W ea (.UnaryOp .Not a pos) (cNot p) := by
  refine pt_weak (pt_not ha) fun σ H Q h => ?_
  refine tG_bind h fun bx O ω ρ x d1 H1 he hg hx hr => ?_
  cases hx
  exact tG_pure hr hg rfl
theorem de_if (hc : DT X W ea c p) (ha : DE X W ea a f) (hb : DE X W ea b g) : DE X W ea (.IfExp c a b pos) (eIf p f g) := by
  refine pe_weak (pe_ifExp hc ha hb) fun σ H Q h => ?_
  refine tG_bind h fun bx O ω ρ x d1 H1 he hg hx hr => ?_
  cases hx
  cases x with
  | true => exact ⟨bx, O, ω, ρ, he, hg, hr⟩
  | false => exact ⟨bx, O, ω, ρ, he, hg, hr⟩
/-- an expression whose value is a bool, as a test; a test as a value (not, and, or of bools) -/
def cVal (f : Sls → M D) : Sls → M Bool := fun ρ => f ρ >>= fun x => ofOpt (asB x)
theorem dt_val (h : DE X W ea e f) (he : ∀ whole, isTrue e X.env whole = (do let v ← whole; standAt e.pos; holding [v] (truthy v)) := by intro _; rfl) : DT X W ea e (cVal f) := by
  refine pt_weak (pt_val h he) fun σ H Q h => ?_
  refine tG_bind h fun bx O ω ρ x d1 H1 he hg hx hr => ?_
  obtain ⟨d, eo, hr⟩ := retG_opt hr
  cases d1 <;> simp only [asB, Option.some.injEq, reduceCtorEq] at eo
  cases hx
  subst eo
  exact ⟨_, rfl, tG_pure hr hg rfl⟩
def eAnd (f g : Sls → M D) : Sls → M D := fun ρ => f ρ >>= fun x => ofOpt (asB x) >>= fun b => if b then g ρ else pure (.bl false)
def eOr (f g : Sls → M D) : Sls → M D := fun ρ => f ρ >>= fun x => ofOpt (asB x) >>= fun b => if b then pure (.bl true) else g ρ
def eNot (f : Sls → M D) : Sls → M D := fun ρ => f ρ >>= fun x => ofOpt ((asB x).map fun b => .bl (!b))
theorem de_one {op} (h : DE X W ea a f) : DE X W ea (.BoolOp op [a] pos) f := pe_one h
theorem de_and (ha : DE X W ea a f) (hb : DE X W ea (.BoolOp .And (b :: es) pos) g) : DE X W ea (.BoolOp .And (a :: b :: es) pos) (eAnd f g) := by
  refine pe_weak (pe_and ha hb) fun σ H Q h => ?_
  refine tG_bind h fun bx O ω ρ x d1 H1 he hg hx hr => ?_
  cases d1 with
  | bl t =>
    cases hx
    refine ⟨t, rfl, ?_⟩
    cases t with
    | true => exact ⟨bx, O, ω, ρ, he, hg, hr⟩
    | false => exact tG_pure hr hg (.bl _)
  | _ => exact hr.elim
theorem de_or (ha : DE X W ea a f) (hb : DE X W ea (.BoolOp .Or (b :: es) pos) g) : DE X W ea (.BoolOp .Or (a :: b :: es) pos) (eOr f g) := by
  refine pe_weak (pe_or ha hb) fun σ H Q h => ?_
  refine tG_bind h fun bx O ω ρ x d1 H1 he hg hx hr => ?_
  cases d1 with
  | bl t =>
    cases hx
    refine ⟨t, rfl, ?_⟩
    cases t with
    | false => exact ⟨bx, O, ω, ρ, he, hg, hr⟩
    | true => exact tG_pure hr hg (.bl _)
  | _ => exact hr.elim
theorem de_not (ha : DE X W ea a f) : DE X W ea (.UnaryOp .Not a pos) (eNot f) := by
  refine pe_weak (pe_not ha) fun σ H Q h => ?_
  refine tG_bind h fun bx O ω ρ x d1 H1 he hg hx hr => ?_
  obtain ⟨d, eo, hr⟩ := retG_opt hr
  cases d1 with
  | bl t =>
    cases hx
    cases eo
    exact ⟨t, rfl, tG_pure hr hg (.bl _)⟩
  | _ => cases eo
end
end DL
end

section
set_option Elab.async false
set_option linter.all false
set_option maxRecDepth 100000
set_option maxHeartbeats 2000000
set_option autoImplicit false
/-! DL3: operators on deep values. -/
namespace DL
open PySem PySem.Spec PyProof.Rows L2

theorem opD_mk {X : Cx} {f : Value → Value → Sem Value} {op : D → D → Option D}
    (h : ∀ (pins : List (Addr × Obj)) (s : Shared) (σ : L2.St) (H : Hp) (x y : V) (v u : Value) (Q : VK) (bx : Option Addr) (O : List Addr) (d1 d2 d : D), Inv X pins σ H s → RelV x v → RelV y u → op d1 d2 = some d →
      (∀ a ∈ O, ∃ o, H a = some o ∧ ∀ vs, o ≠ .tup vs) → Den X.K X.mg bx O H x d1 → Den X.K X.mg bx O H y d2 → (∀ v H', Out [] H H' → Den X.K X.mg bx O H' v d → Q v H') → wpAny (model X.prog X.w) X.A (f v u) (EP X pins σ Q) X.xe s) :
    OpR X f (rD X.K X.mg op) := fun pins s σ H x y v u Q I rx ry ⟨bx, O, d1, d2, d, e, nt, h1, h2, k⟩ => h pins s σ H x y v u Q bx O d1 d2 d I rx ry e nt h1 h2 k
theorem fresh_out {O : List Addr} {H : Hp} {p : Addr} (nt : ∀ a ∈ O, ∃ o, H a = some o ∧ ∀ vs, o ≠ .tup vs) (hp : H p = none) : p ∉ O := fun z => by
  obtain ⟨o, e, _⟩ := nt p z
  rw [hp] at e; cases e

section
variable {X : Cx}
def addD : D → D → Option D
  | .int i, .int j => some (.int (i + j))
  | .str x, .str y => if x.length + y.length ≤ 16000000 then some (.str (x ++ y)) else none
  | .lst xs, .lst ys => if xs.length + ys.length ≤ 16000000 then some (.lst (xs ++ ys)) else none
  | .tup xs, .tup ys => if (xs ≠ [] ∧ ys ≠ []) ∧ xs.length + ys.length ≤ 16000000 then some (.tup (xs ++ ys)) else none
  | _, _ => none
theorem denl_ne {K : Fr} {mg : Mg} {bx : Option Addr} {O : List Addr} {H : Hp} {vs : List V} {ds : List D} (r : DenL K mg bx O H vs ds) (n : ds ≠ []) : vs ≠ [] := fun z => by
  subst z
  cases r
  exact n rfl
theorem den_tup {K : Fr} {mg : Mg} {bx : Option Addr} {O : List Addr} {H : Hp} {v : V} {ds : List D} (h : Den K mg bx O H v (.tup ds)) : ∃ a vs, v = .ref a ∧ SqT K H a vs ∧ DenL K mg bx O H vs ds := by
  cases h with
  | tup ha h r => exact ⟨_, _, rfl, .of h, r⟩
  | ktup h r => exact ⟨_, _, rfl, h _, r⟩
theorem den_lst {K : Fr} {mg : Mg} {bx : Option Addr} {O : List Addr} {H : Hp} {v : V} {ds : List D} (h : Den K mg bx O H v (.lst ds)) : ∃ a vs, v = .ref a ∧ a ∉ O ∧ H a = some (.lst vs) ∧ DenL K mg bx O H vs ds := by
  cases h with
  | lst ha h r => exact ⟨_, _, rfl, ha, h, r⟩
theorem den_newT {K : Fr} {mg : Mg} {bx : Option Addr} {O : List Addr} {H : Hp} {p : Addr} {vs : List V} {ds : List D} (nt : ∀ a ∈ O, ∃ o, H a = some o ∧ ∀ vs, o ≠ .tup vs) (hp : H p = none) (r : DenL K mg bx O H vs ds) :
    Den K mg bx O (upd H p (.tup vs)) (.ref p) (.tup ds) := .tup (fresh_out nt hp) upd_same (r.step (Out.new hp))
theorem den_newL {K : Fr} {mg : Mg} {bx : Option Addr} {O : List Addr} {H : Hp} {p : Addr} {vs : List V} {ds : List D} (nt : ∀ a ∈ O, ∃ o, H a = some o ∧ ∀ vs, o ≠ .tup vs) (hp : H p = none) (r : DenL K mg bx O H vs ds) :
    Den K mg bx O (upd H p (.lst vs)) (.ref p) (.lst ds) := .lst (fresh_out nt hp) upd_same (r.step (Out.new hp))
theorem op_addD : OpR X (binaryOp .Add) (rD X.K X.mg addD) := opD_mk fun pins s σ H x y v u Q bx O d1 d2 d I rx ry e nt h1 h2 k => by
  unfold addD at e
  split at e
  · cases h1; cases h2; cases e
    exact op_add pins s σ H _ _ v u Q I rx ry ⟨_, _, rfl, rfl, k _ H Out.refl (.int _)⟩
  · cases h1; cases h2
    obtain ⟨hl, rfl⟩ := ite_some e
    exact op_add_str pins s σ H _ _ v u Q I rx ry ⟨_, _, rfl, rfl, line16 hl, k _ H Out.refl (.str _)⟩
  · obtain ⟨a, vs, rfl, _, ha, r1⟩ := den_lst h1
    obtain ⟨b, ws, rfl, _, hb, r2⟩ := den_lst h2
    obtain ⟨hl, rfl⟩ := ite_some e
    exact op_cat pins s σ H _ _ v u Q I rx ry ⟨a, b, vs, ws, rfl, rfl, ha, hb, line16 (by rw [r1.length, r2.length]; exact hl), fun p hp => k _ _ (Out.new hp) (den_newL nt hp (r1.append r2))⟩
  · obtain ⟨a, vs, rfl, ha, r1⟩ := den_tup h1
    obtain ⟨b, ws, rfl, hb, r2⟩ := den_tup h2
    obtain ⟨⟨hn, hl⟩, rfl⟩ := ite_some e
    exact op_catT pins s σ H _ _ v u Q I rx ry ⟨a, b, vs, ws, rfl, rfl, ha, hb, denl_ne r1 hn.1, line16 (by rw [r1.length, r2.length]; exact hl), fun z => absurd z (denl_ne r2 hn.2), fun _ p hp => k _ _ (Out.new hp) (den_newT nt hp (r1.append r2))⟩
  · cases e
/-- two ints -/
def onI (f : Int → Int → Option Int) : D → D → Option D
  | .int i, .int j => (f i j).map D.int
  | _, _ => none
theorem op_onI {o : Operator} {f : Int → Int → Option Int} (h : ∀ (i j z : Int) (t u : Tok) (s : Shared) (Q : Value → Shared → Prop) (E : Value → Shared → Prop), f i j = some z → (∀ t, Q (.int z t) { s with toks := s.toks + 1 }) → wpAny (model X.prog X.w) X.A (binaryOp o (.int i t) (.int j u)) Q E s) :
    OpR X (binaryOp o) (rD X.K X.mg (onI f)) := opD_mk fun pins s σ H x y v u Q bx O d1 d2 d I rx ry e nt h1 h2 k => by
  unfold onI at e
  split at e
  · cases h1; cases h2
    obtain ⟨z, ez, rfl⟩ := Option.map_eq_some_iff.mp e
    obtain ⟨t, rfl⟩ := rx
    obtain ⟨t', rfl⟩ := ry
    exact h _ _ z t t' s _ _ ez fun t => ⟨.int z, H, I.tok _, ⟨_, rfl⟩, k _ H Out.refl (.int _)⟩
  · cases e
def subD : D → D → Option D := onI fun i j => some (i - j)
theorem op_subD : OpR X (binaryOp .Sub) (rD X.K X.mg subD) := op_onI fun i j z t u s Q E e q => by
  cases e
  exact sub_int (q _)
/-- the bits of an int -/
def nb (i : Int) : Nat := Builtin.Int.intBits i
def mulI (i j : Int) : Option Int := if nb i + nb j ≤ 134217728 then some (i * j) else none
def mulD : D → D → Option D
  | .int i, .int j => (mulI i j).map D.int
  | .lst xs, .int k => if -(2 ^ 63) ≤ k ∧ k < 2 ^ 63 ∧ xs.length * k.toNat ≤ 16000000 then some (.lst (List.replicate k.toNat xs).flatten) else none
  | _, _ => none
theorem op_mulD : OpR X (binaryOp .Mult) (rD X.K X.mg mulD) := opD_mk fun pins s σ H x y v u Q bx O d1 d2 d I rx ry e nt h1 h2 k => by
  unfold mulD at e
  split at e
  · cases h1; cases h2
    obtain ⟨z, ez, rfl⟩ := Option.map_eq_some_iff.mp e
    obtain ⟨hb, rfl⟩ := ite_some ez
    refine op_mulX pins s σ H _ _ v u Q I rx ry ⟨_, _, rfl, rfl, ?_, k _ H Out.refl (.int _)⟩
    unfold CMulX
    unfold nb at hb
    omega
  · obtain ⟨a, vs, rfl, _, ha, r1⟩ := den_lst h1
    cases h2
    obtain ⟨⟨b1, b2, hl⟩, rfl⟩ := ite_some e
    exact op_rep pins s σ H _ _ v u Q I rx ry ⟨a, _, vs, rfl, rfl, ha, b1, b2, line16 (by rw [r1.length]; exact hl), fun p hp => k _ _ (Out.new hp) (den_newL nt hp (r1.flat _))⟩
  · cases e
def fdivI (i j : Int) : Option Int := if j ≠ 0 ∧ Builtin.divisionGoesByPylong i j = false then some (i.fdiv j) else none
def fdivD : D → D → Option D := onI fdivI
theorem op_fdivD : OpR X (binaryOp .FloorDiv) (rD X.K X.mg fdivD) := op_onI fun i j z t u s Q E e q => by
  obtain ⟨⟨h1, h2⟩, rfl⟩ := ite_some e
  exact floordiv_int h1 (q _) (.inl h2)
def modI (i j : Int) : Option Int := if j ≠ 0 then some (i.fmod j) else none
def modD : D → D → Option D := onI modI
theorem op_modD : OpR X (binaryOp .Mod) (rD X.K X.mg modD) := op_onI fun i j z t u s Q E e q => by
  obtain ⟨h1, rfl⟩ := ite_some e
  exact mod_int' h1 (q _)
def powI (i j : Int) : Option Int := if 0 ≤ j ∧ (nb i : Int) * j ≤ 2 ^ 27 then some (i ^ j.toNat) else none
def powD : D → D → Option D := onI powI
theorem op_powD : OpR X (binaryOp .Pow) (rD X.K X.mg powD) := op_onI fun i j z t u s Q E e q => by
  obtain ⟨⟨h1, h2⟩, rfl⟩ := ite_some e
  exact pow_int h1 h2 (q _)
def negD : D → Option D
  | .int i => some (.int (-i))
  | _ => none
theorem un_negD : UnR X (unaryOp .USub) (rD1 X.K X.mg negD) := fun pins s σ H x v Q I rx ⟨bx, O, d1, d, e, nt, h1, k⟩ => by
  unfold negD at e
  split at e
  · cases h1; cases e
    exact un_neg pins s σ H _ v Q I rx ⟨_, rfl, k _ H Out.refl (.int _)⟩
  · cases e

/-! ### order -/
def onB (f : Int → Int → Bool) : D → D → Option Bool
  | .int i, .int j => some (f i j)
  | _, _ => none
theorem op_onB {o : CmpOp} {f : Int → Int → Bool} (h : OpR X (compareOp o) (rI0 fun i j => .bl (f i j))) : OpR X (compareOp o) (rD X.K X.mg fun x y => (onB f x y).map D.bl) := opD_mk fun pins s σ H x y v u Q bx O d1 d2 d I rx ry e nt h1 h2 k => by
  unfold onB at e
  split at e
  · cases h1; cases h2; cases e
    exact h pins s σ H _ _ v u Q I rx ry ⟨_, _, rfl, rfl, k _ H Out.refl (.bl _)⟩
  · cases e
def ltD : D → D → Option Bool := onB fun i j => decide (i < j)
def leD : D → D → Option Bool := onB fun i j => decide (i ≤ j)
def gtD : D → D → Option Bool := onB fun i j => decide (j < i)
def geD : D → D → Option Bool := onB fun i j => decide (j ≤ i)
theorem op_ltD : OpR X (compareOp .Lt) (rD X.K X.mg fun x y => (ltD x y).map D.bl) := op_onB op_lt
theorem op_leD : OpR X (compareOp .LtE) (rD X.K X.mg fun x y => (leD x y).map D.bl) := op_onB op_le
theorem op_gtD : OpR X (compareOp .Gt) (rD X.K X.mg fun x y => (gtD x y).map D.bl) := op_onB op_gt
theorem op_geD : OpR X (compareOp .GtE) (rD X.K X.mg fun x y => (geD x y).map D.bl) := op_onB op_ge

/-! ### ==, of data -/
mutual
def pyd : D → Option PyData
  | .non => some .none
  | .bl b => some (.bool b)
  | .int i => some (.int i)
  | .str x => some (.str x)
  | .tup xs => (pydL xs).map .tuple
  | .lst xs => (pydL xs).map .list
  | .obj _ _ _ => none
  | .box => none
  | .scr _ => none
def pydL : List D → Option (List PyData)
  | [] => some []
  | x :: xs => (pyd x).bind fun p => (pydL xs).map fun ps => p :: ps
end
mutual
theorem dp_of {K : Fr} {mg : Mg} {bx : Option Addr} {O : List Addr} {H : Hp} {v : V} {d : D} {p : PyData} (h : Den K mg bx O H v d) (e : pyd d = some p) : Dp K H v p := by
  match h with
  | .non => cases e; exact .non
  | .bl b => cases e; exact .bl b
  | .int i => cases e; exact .int i
  | .str x => cases e; exact .str x
  | .tup ha h r =>
    rw [pyd] at e
    obtain ⟨ps, e1, rfl⟩ := Option.map_eq_some_iff.mp e
    exact .tup (.of h) (dpl_of r e1)
  | .ktup h r =>
    rw [pyd] at e
    obtain ⟨ps, e1, rfl⟩ := Option.map_eq_some_iff.mp e
    exact .tup (h _) (dpl_of r e1)
  | .lst ha h r =>
    rw [pyd] at e
    obtain ⟨ps, e1, rfl⟩ := Option.map_eq_some_iff.mp e
    exact .lst (.of h) (dpl_of r e1)
  | .obj ha hc h hl r => rw [pyd] at e; cases e
  | .box h => cases e
  | .scr ha h => cases e
  | .kscr h => cases e
theorem dpl_of {K : Fr} {mg : Mg} {bx : Option Addr} {O : List Addr} {H : Hp} {vs : List V} {ds : List D} {ps : List PyData} (h : DenL K mg bx O H vs ds) (e : pydL ds = some ps) : DpAll K H vs ps := by
  match h with
  | .nil => cases e; exact .nil
  | .cons h r =>
    rw [pydL] at e
    obtain ⟨p, e1, e⟩ := Option.bind_eq_some_iff.mp e
    obtain ⟨qs, e2, rfl⟩ := Option.map_eq_some_iff.mp e
    exact .cons (dp_of h e1) (dpl_of r e2)
end
def eqP (x y : D) : Option Bool := match pyd x, pyd y with
  | some p, some q => if SeqAt.shaped p = true ∧ SeqAt.shaped q = true then some (PyData.eqv p q) else none
  | _, _ => none
def eqD : D → D → Option Bool
  | .str x, .str y => some (decide (x = y))
  | x, y => eqP x y
def neD (x y : D) : Option Bool := (eqD x y).map (!·)
theorem eqP_some {x y : D} {b : Bool} (e : eqP x y = some b) : ∃ p q, pyd x = some p ∧ pyd y = some q ∧ SeqAt.shaped p = true ∧ SeqAt.shaped q = true ∧ b = PyData.eqv p q := by
  unfold eqP at e
  split at e
  · obtain ⟨⟨h1, h2⟩, rfl⟩ := ite_some e
    exact ⟨_, _, by assumption, by assumption, h1, h2, rfl⟩
  · cases e
theorem op_eqDD (hu : X.A.units + 64 < cLine) : OpR X (compareOp .Eq) (rD X.K X.mg fun x y => (eqD x y).map D.bl) := opD_mk fun pins s σ H x y v u Q bx O d1 d2 d I rx ry e nt h1 h2 k => by
  obtain ⟨b, e2, rfl⟩ := Option.map_eq_some_iff.mp e
  clear e
  unfold eqD at e2
  split at e2
  · cases h1; cases h2; cases e2
    refine op_eq pins s σ H _ _ v u Q I rx ry ⟨rfl, ?_⟩
    rw [dec_str, Bool.beq_eq_decide_eq]
    exact k _ H Out.refl (.bl _)
  · obtain ⟨p, q, e1, e3, s1, s2, rfl⟩ := eqP_some e2
    exact op_eqD hu pins s σ H _ _ v u Q I rx ry ⟨p, q, dp_of h1 e1, dp_of h2 e3, s1, s2, k _ H Out.refl (.bl _)⟩
theorem op_neDD (hu : X.A.units + 64 < cLine) : OpR X (compareOp .NotEq) (rD X.K X.mg fun x y => (neD x y).map D.bl) := opD_mk fun pins s σ H x y v u Q bx O d1 d2 d I rx ry e nt h1 h2 k => by
  obtain ⟨b', e1, rfl⟩ := Option.map_eq_some_iff.mp e
  obtain ⟨b, e2, rfl⟩ := Option.map_eq_some_iff.mp e1
  clear e e1
  unfold eqD at e2
  split at e2
  · cases h1; cases h2; cases e2
    refine op_ne pins s σ H _ _ v u Q I rx ry ⟨rfl, ?_⟩
    rw [dec_str, Bool.beq_eq_decide_eq]
    exact k _ H Out.refl (.bl _)
  · obtain ⟨p, q, e1, e3, s1, s2, rfl⟩ := eqP_some e2
    exact op_neD hu pins s σ H _ _ v u Q I rx ry ⟨p, q, dp_of h1 e1, dp_of h2 e3, s1, s2, k _ H Out.refl (.bl _)⟩

/-! ### is -/
def isND (x y : D) : Option Bool := match x, y with
  | .non, .non => some true
  | _, .non => some false
  | .bl a, .bl b => some (decide (a = b))
  | _, .bl _ => some false
  | _, _ => none
theorem op_isX : OpR X (compareOp .Is) (fun x y H Q => ∃ b : Bool, y = .bl b ∧ (∀ a, x ≠ .bl a) ∧ Q (.bl false) H) := by
  intro pins s σ H x y v u Q I rx ry h
  obtain ⟨b, rfl, hx, q⟩ := h
  cases (show u = Value.bool b from ry)
  have fin : plainIs v (.bool b) = true → v ≠ .bool b → wpAny (model X.prog X.w) X.A (compareOp .Is v (.bool b)) (EP X pins σ Q) X.xe s := fun h1 h2 => wpAny_is_other h1 h2 ⟨.bl false, H, I, rfl, q⟩
  cases x with
  | bl a => exact absurd rfl (hx a)
  | non => cases rx; exact fin rfl (fun z => by cases z)
  | int i => obtain ⟨t, rfl⟩ := rx; exact fin rfl (fun z => by cases z)
  | str i => obtain ⟨t, rfl⟩ := rx; exact fin rfl (fun z => by cases z)
  | byt i => obtain ⟨t, rfl⟩ := rx; exact fin rfl (fun z => by cases z)
  | flt i => obtain ⟨t, rfl⟩ := rx; exact fin rfl (fun z => by cases z)
  | ref i => cases rx; exact fin rfl (fun z => by cases z)
  | ty i => cases rx; exact fin rfl (fun z => by cases z)
theorem op_isnotX : OpR X (compareOp .IsNot) (fun x y H Q => ∃ b : Bool, y = .bl b ∧ (∀ a, x ≠ .bl a) ∧ Q (.bl true) H) := by
  intro pins s σ H x y v u Q I rx ry h
  obtain ⟨b, rfl, hx, q⟩ := h
  cases (show u = Value.bool b from ry)
  have fin : plainIs v (.bool b) = true → v ≠ .bool b → wpAny (model X.prog X.w) X.A (compareOp .IsNot v (.bool b)) (EP X pins σ Q) X.xe s := fun h1 h2 => wpAny_isNot_other h1 h2 ⟨.bl true, H, I, rfl, q⟩
  cases x with
  | bl a => exact absurd rfl (hx a)
  | non => cases rx; exact fin rfl (fun z => by cases z)
  | int i => obtain ⟨t, rfl⟩ := rx; exact fin rfl (fun z => by cases z)
  | str i => obtain ⟨t, rfl⟩ := rx; exact fin rfl (fun z => by cases z)
  | byt i => obtain ⟨t, rfl⟩ := rx; exact fin rfl (fun z => by cases z)
  | flt i => obtain ⟨t, rfl⟩ := rx; exact fin rfl (fun z => by cases z)
  | ref i => cases rx; exact fin rfl (fun z => by cases z)
  | ty i => cases rx; exact fin rfl (fun z => by cases z)
theorem is_mk {o : CmpOp} {g : Bool → Bool} (hN : OpR X (compareOp o) (fun x y H Q => y = .non ∧ Q (.bl (g (decide (x = .non)))) H)) (hB : OpR X (compareOp o) (fun x y H Q => ∃ a b : Bool, x = .bl a ∧ y = .bl b ∧ Q (.bl (g (decide (a = b)))) H)) (hX : OpR X (compareOp o) (fun x y H Q => ∃ b : Bool, y = .bl b ∧ (∀ a, x ≠ .bl a) ∧ Q (.bl (g false)) H)) :
    OpR X (compareOp o) (rD X.K X.mg fun x y => (isND x y).map fun b => D.bl (g b)) := opD_mk fun pins s σ H x y v u Q bx O d1 d2 d I rx ry e nt h1 h2 k => by
  obtain ⟨b, e2, rfl⟩ := Option.map_eq_some_iff.mp e
  clear e
  unfold isND at e2
  split at e2
  · cases h1; cases h2; cases e2
    exact hN pins s σ H _ _ v u Q I rx ry ⟨rfl, k _ H Out.refl (.bl _)⟩
  · cases h2; cases e2
    refine hN pins s σ H _ _ v u Q I rx ry ⟨rfl, ?_⟩
    have ne : x ≠ .non := by
      rintro rfl
      cases h1
      rename_i hne
      exact hne rfl
    rw [decide_eq_false ne]
    exact k _ H Out.refl (.bl _)
  · cases h1; cases h2; cases e2
    exact hB pins s σ H _ _ v u Q I rx ry ⟨_, _, rfl, rfl, k _ H Out.refl (.bl _)⟩
  · cases h2; cases e2
    refine hX pins s σ H _ _ v u Q I rx ry ⟨_, rfl, fun a z => ?_, k _ H Out.refl (.bl _)⟩
    subst z
    cases h1
    rename_i hne
    exact hne _ rfl
  · cases e2
theorem op_isD : OpR X (compareOp .Is) (rD X.K X.mg fun x y => (isND x y).map D.bl) := is_mk (g := id) op_isN op_isBl op_isX
def isNotD (x y : D) : Option Bool := (isND x y).map (!·)
theorem op_isNotD : OpR X (compareOp .IsNot) (rD X.K X.mg fun x y => (isNotD x y).map D.bl) := by
  have h := is_mk (X := X) (o := .IsNot) (g := (!·)) op_notN op_notBl op_isnotX
  have e : (fun x y => (isNotD x y).map D.bl) = fun x y => (isND x y).map fun b => D.bl (!b) := by
    funext x y
    unfold isNotD
    rw [Option.map_map]
    rfl
  rw [e]
  exact h

/-! ### truth -/
def truD : D → Option Bool
  | .non => some false
  | .bl b => some b
  | .int i => some (i != 0)
  | .str y => if y.length ≤ 16000000 then some (y.length != 0) else none
  | .lst xs => some (!xs.isEmpty)
  | .tup xs => some (!xs.isEmpty)
  | _ => none
theorem denl_empty {K : Fr} {mg : Mg} {bx : Option Addr} {O : List Addr} {H : Hp} {vs : List V} {ds : List D} (r : DenL K mg bx O H vs ds) : vs.isEmpty = ds.isEmpty := by
  cases r <;> rfl
theorem tru_of {K : Fr} {mg : Mg} {bx : Option Addr} {O : List Addr} {H : Hp} {v : V} {d : D} {b : Bool} (h : Den K mg bx O H v d) (e : truD d = some b) : TruV K v H b := by
  unfold truD at e
  split at e
  · cases h; cases e; rfl
  · cases h; cases e; rfl
  · cases h; cases e; rfl
  · cases h
    obtain ⟨hl, rfl⟩ := ite_some e
    refine ⟨line16 hl, ?_⟩
    rename_i y
    show (y.length != 0) = ((y.length : Int) != 0)
    by_cases z : y.length = 0
    · rw [z]; rfl
    · have z2 : ((y.length : Int)) ≠ 0 := by omega
      rw [(bne_iff_ne).mpr z, (bne_iff_ne).mpr z2]
  · obtain ⟨a, vs, rfl, _, ha, r⟩ := den_lst h
    cases e
    exact .inl ⟨vs, .of ha, by rw [denl_empty r]⟩
  · obtain ⟨a, vs, rfl, ha, r⟩ := den_tup h
    cases e
    exact .inr (.inl ⟨vs, ha, by rw [denl_empty r]⟩)
  · cases e
end
end DL
end

section
set_option Elab.async false
set_option linter.all false
set_option maxRecDepth 100000
set_option maxHeartbeats 2000000
set_option autoImplicit false
/-! DL4: subscripts, slices, fields, truth, isinstance, built-in functions and methods by deep values. -/
namespace DL
open PySem PySem.Spec PyProof.Rows L2

section
variable {X : Cx} {W : WX} {ea : Option (Addr × Addr)} {a b c e : Expr} {es : List Expr} {f g k : Sls → M D} {pos : Pos}

/-! ### truth as a test -/
def cTru (f : Sls → M D) : Sls → M Bool := fun ρ => f ρ >>= fun x => ofOpt (truD x)
theorem dt_tru (h : DE X W ea e f) (he : ∀ whole, isTrue e X.env whole = (do let v ← whole; standAt e.pos; holding [v] (truthy v)) := by intro _; rfl) : DT X W ea e (cTru f) := by
  refine pt_weak (pt_truth h he) fun σ H Q h => ?_
  refine tG_bind h fun bx O ω ρ x d1 H1 he hg hx hr => ?_
  obtain ⟨d, eo, hr⟩ := retG_opt hr
  exact ⟨d, tru_of hx eo, tG_pure hr hg rfl⟩

/-! ### o[i] -/
def ixM : D → D → M D
  | .lst xs, .int i => ofOpt (atI xs i)
  | .tup xs, .int i => ofOpt (atI xs i)
  | .str z, .int i => ofOpt (if z.length ≤ 16000000 then (atI z.cps.toList i).map fun c => .str ⟨#[c]⟩ else none)
  | .box, .int i => ⟨fun ω => if i = 0 then .ok (.lst (ω.1.map D.int)) ω else match ω.2[(i - 1).toNat]? with
    | some n => if 0 < i then .ok (.int n) ω else .bad
    | none => .bad⟩
  | _, _ => M.bad
def eIx (f g : Sls → M D) : Sls → M D := fun ρ => f ρ >>= fun x => g ρ >>= fun y => ixM x y
theorem atI_den {K : Fr} {mg : Mg} {bx : Option Addr} {O : List Addr} {H : Hp} {vs : List V} {ds : List D} {i : Int} {d : D} (r : DenL K mg bx O H vs ds) (e : atI ds i = some d) : ∃ v, atI vs i = some v ∧ Den K mg bx O H v d := by
  unfold atI at e ⊢
  rw [r.length]
  cases q : ixN ds.length i with
  | none => rw [q] at e; cases e
  | some j =>
    rw [q] at e
    exact r.get (i := j) e
theorem denl_ints {K : Fr} {mg : Mg} {bx : Option Addr} {O : List Addr} {H : Hp} (ns : List Int) : DenL K mg bx O H (ns.map V.int) (ns.map D.int) := DenL.ints ns
theorem ix_go {σ : L2.St} {H : Hp} {Q : VK} (h : tE X.K X.mg W ea (eIx f g) σ H Q) : tOp (rIx X.K) (tE X.K X.mg W ea f) (tE X.K X.mg W ea g) σ H Q := by
  refine tG_bind h fun bx O ω ρ x d1 H1 he hg hx hr => ?_
  refine ⟨bx, O, ω, ρ, he, hg, ?_⟩
  rw [M.bind_run] at hr
  cases e : (g ρ).run ω with
  | exc c fs ω1 => rw [e] at hr; exact hr
  | bad => rw [e] at hr; exact hr
  | ok d2 ω1 =>
    rw [e] at hr
    intro y H2 s2 g2 hy
    replace hr : RetG X.K X.mg W bx O σ H2 (relD X.K X.mg bx O) Q ((ixM d1 d2).run ω1) := RetG.later hr s2
    have hx2 := hx.step (s2.out0 hg)
    clear e hx
    cases d1 with
    | lst xs =>
      cases d2 with
      | int i =>
        obtain ⟨p, vs, rfl, _, hp, r⟩ := den_lst hx2
        cases hy
        obtain ⟨d, eo, hr⟩ := retG_opt hr
        obtain ⟨v, ev, hv⟩ := atI_den r eo
        exact .inl ⟨p, vs, _, v, rfl, rfl, .of hp, ev, tG_pure hr g2 hv⟩
      | _ => exact hr.elim
    | tup xs =>
      cases d2 with
      | int i =>
        obtain ⟨p, vs, rfl, hp, r⟩ := den_tup hx2
        cases hy
        obtain ⟨d, eo, hr⟩ := retG_opt hr
        obtain ⟨v, ev, hv⟩ := atI_den r eo
        exact .inr (.inl ⟨p, vs, _, v, rfl, rfl, hp, ev, tG_pure hr g2 hv⟩)
      | _ => exact hr.elim
    | str z =>
      cases d2 with
      | int i =>
        cases hx2; cases hy
        obtain ⟨d, eo, hr⟩ := retG_opt hr
        by_cases hz : z.length ≤ 16000000
        · rw [if_pos hz] at eo
          obtain ⟨c, ec, rfl⟩ := Option.map_eq_some_iff.mp eo
          exact .inr (.inr ⟨z, i, c, rfl, rfl, line16 hz, ec, tG_pure hr g2 (.str _)⟩)
        · rw [if_neg hz] at eo; cases eo
      | _ => exact hr.elim
    | box =>
      cases d2 with
      | int i =>
        cases hx2 with
        | box hb =>
          cases hy
          obtain ⟨hO, a0, h0, e0, e1⟩ := g2.bx _ hb
          replace hr : RetG X.K X.mg W bx O σ H2 (relD X.K X.mg bx O) Q (if i = 0 then .ok (.lst (ω1.1.map D.int)) ω1 else match ω1.2[(i - 1).toNat]? with
            | some n => if 0 < i then .ok (.int n) ω1 else .bad
            | none => .bad) := hr
          by_cases hi : i = 0
          · subst hi
            rw [if_pos rfl] at hr
            exact .inl ⟨_, _, 0, _, rfl, rfl, .of e1, by simp [atI, ixN], hr _ H2 Stp.refl g2 (.lst h0 e0 (denl_ints _))⟩
          · rw [if_neg hi] at hr
            cases q : ω1.2[(i - 1).toNat]? with
            | none => rw [q] at hr; exact hr.elim
            | some n =>
              rw [q] at hr
              dsimp only at hr
              by_cases hp : 0 < i
              · rw [if_pos hp] at hr
                refine .inl ⟨_, _, i, .int n, rfl, rfl, .of e1, ?_, hr _ H2 Stp.refl g2 (.int n)⟩
                obtain ⟨m, rfl⟩ : ∃ m : Nat, i = ((m + 1 : Nat) : Int) := ⟨(i - 1).toNat, by omega⟩
                refine atI_nat ?_
                rw [List.getElem?_cons_succ, List.getElem?_map]
                have : ((((m + 1 : Nat) : Int) - 1).toNat) = m := by omega
                rw [this] at q
                rw [q]
                rfl
              · rw [if_neg hp] at hr; exact hr.elim
      | _ => exact hr.elim
    | _ => exact hr.elim
theorem de_ix (ha : DE X W ea a f) (hb : DE X W ea b g) (hs : PlainIx b := by exact fun _ _ => rfl) : DE X W ea (.Subscript a b pos) (eIx f g) := pe_weak (pe_ix ix_seq ha hb hs) fun _ _ _ h => ix_go h

/-! ### o[i:j] -/
def oNo : Sls → M (Option Int) := fun _ => pure none
def oSo (f : Sls → M D) : Sls → M (Option Int) := fun ρ => f ρ >>= fun x => ofOpt (match x with | .int i => some (some i) | _ => none)
abbrev DO (X : Cx) (W : WX) (ea : Option (Addr × Addr)) (o : Option Expr) (f : Sls → M (Option Int)) : Prop := PO X o (tO X.K X.mg W ea f)
theorem po_weak {X : Cx} {o : Option Expr} {t t' : TO} (h : PO X o t) (w : ∀ σ H Q, t' σ H Q → t σ H Q) : PO X o t' := ⟨fun pins s σ H Q I hq => h.run pins s σ H Q I (w σ H Q hq)⟩
theorem do_none : DO X W ea none oNo := po_weak po_none fun σ H Q h => by
  obtain ⟨bx, O, ω, ρ, he, hg, hr⟩ := h
  exact tG_pure hr hg rfl
theorem do_some (h : DE X W ea e f) : DO X W ea (some e) (oSo f) := po_weak (po_some h) fun σ H Q h => by
  refine tG_bind h fun bx O ω ρ x d1 H1 he hg hx hr => ?_
  obtain ⟨d, eo, hr⟩ := retG_opt hr
  cases d1 with
  | int i => cases hx; cases eo; exact ⟨i, rfl, tG_pure hr hg rfl⟩
  | _ => cases eo
def cutL {α : Type} (xs : List α) (lo hi : Option Int) : List α := (xs.drop (HT.sIx xs.length 0 lo)).take (HT.sIx xs.length xs.length hi - HT.sIx xs.length 0 lo)
def slD : D → Option Int → Option Int → Option D
  | .lst xs, lo, hi => some (.lst (cutL xs lo hi))
  | .tup xs, lo, hi => some (.tup (cutL xs lo hi))
  | .scr xs, lo, hi => some (.lst ((cutL xs lo hi).map D.int))
  | .str z, lo, hi => if z.length ≤ 16000000 then some (.str (cutS z lo hi)) else none
  | _, _, _ => none
def eSl (f : Sls → M D) (l h : Sls → M (Option Int)) : Sls → M D := fun ρ => f ρ >>= fun x => l ρ >>= fun lo => h ρ >>= fun hi => ofOpt (slD x lo hi)
def rSl (K : PySem.W.Frag) : V → Option Int → Option Int → Hp → VK → Prop := fun x lo hi H Q => rSlL K x lo hi H Q ∨ rSlA K x lo hi H Q ∨ rSlS x lo hi H Q
theorem sl_all : SlR X (rSl X.K) := sl_list.or (sl_tupA.or sl_str)
theorem cutV_eq (xs : List V) (lo hi : Option Int) : cutV xs lo hi = cutL xs lo hi := rfl
theorem cutL_den {K : Fr} {mg : Mg} {bx : Option Addr} {O : List Addr} {H : Hp} {vs : List V} {ds : List D} (r : DenL K mg bx O H vs ds) (lo hi : Option Int) : DenL K mg bx O H (cutL vs lo hi) (cutL ds lo hi) := by
  unfold cutL
  rw [r.length]
  exact (r.drop _).take _
theorem cutL_map {α β : Type} (q : α → β) (xs : List α) (lo hi : Option Int) : cutL (xs.map q) lo hi = (cutL xs lo hi).map q := by
  unfold cutL
  rw [List.length_map, ← List.map_drop, ← List.map_take]
theorem cutL_whole {α : Type} {xs : List α} {lo hi : Option Int} (h1 : HT.sIx xs.length 0 lo = 0) (h2 : HT.sIx xs.length xs.length hi = xs.length) : cutL xs lo hi = xs := by
  unfold cutL
  rw [h1, h2]
  simp
theorem two_at {α β γ : Type} {rel : Option Addr → List Addr → Hp → β → α → Prop} {bx : Option Addr} {O : List Addr} {ω : Om} {ρ : Sls} {σ : L2.St} {H1 : Hp} {m : Sls → M α} {q : α → M γ} {β' : Type} {rel' : Hp → β' → γ → Prop} {Q : β' → Hp → Prop} {R : β → Hp → Prop}
    (he : EnvOk X.K X.mg bx ea O H1 σ ρ) (hg : Good bx O H1 ω) (hr : RetG X.K X.mg W bx O σ H1 rel' Q ((m ρ >>= q).run ω))
    (k : ∀ d ω1 y H2, Stp bx [] H1 H2 → Out O H1 H2 → EnvOk X.K X.mg bx ea O H2 σ ρ → Good bx O H2 ω1 → rel bx O H2 y d → RetG X.K X.mg W bx O σ H2 rel' Q ((q d).run ω1) → R y H2) : tG X.K X.mg W ea rel m σ H1 R := by
  refine ⟨bx, O, ω, ρ, he, hg, ?_⟩
  rw [M.bind_run] at hr
  cases e : (m ρ).run ω with
  | ok d2 ω1 =>
    rw [e] at hr
    intro y H2 s2 g2 hy
    exact k d2 ω1 y H2 s2 (s2.out0 hg) (he.step (s2.out0 hg)) g2 hy (RetG.later hr s2)
  | exc c fs ω1 => rw [e] at hr; exact hr
  | bad => rw [e] at hr; exact hr
theorem de_sl {lo hi : Option Expr} {l h : Sls → M (Option Int)} {p2 : Pos} (he : DE X W ea e f) (hl : DO X W ea lo l) (hh : DO X W ea hi h) : DE X W ea (.Subscript e (.Slice lo hi none p2) pos) (eSl f l h) := by
  refine pe_weak (pe_slice sl_all he hl hh) fun σ H Q hq => ?_
  refine tG_bind hq fun bx O ω ρ x d1 H1 he hg hx hr => ?_
  refine two_at he hg hr fun lo' ω1 l' H2 s2 o2 he2 g2 el hr2 => ?_
  cases el
  refine two_at he2 g2 hr2 fun hi' ω3 h' H3 s3 o3 he3 g3 eh hr3 => ?_
  cases eh
  obtain ⟨d, eo, hr4⟩ := retG_opt hr3
  have hx3 := (hx.step o2).step o3
  unfold slD at eo
  split at eo
  · obtain ⟨p, vs, rfl, _, hp, r⟩ := den_lst hx3
    cases eo
    exact .inl ⟨p, vs, rfl, .of hp, fun q hq => tG_new hr4 (Out.new hq) g3 (den_newL g3.nt hq (cutL_den r _ _))⟩
  · obtain ⟨p, vs, rfl, hp, r⟩ := den_tup hx3
    cases eo
    refine .inr (.inl ⟨p, vs, rfl, hp, fun z => tG_pure hr4 g3 ?_, fun z q hq => tG_new hr4 (Out.new hq) g3 (den_newT g3.nt hq (cutL_den r _ _))⟩)
    rw [r.length] at z
    rw [cutL_whole z.1 z.2]
    exact hx3
  · cases hx3 with
    | scr ha hp =>
      cases eo
      exact .inl ⟨_, _, rfl, .inl (.inr ⟨_, hp⟩), fun q hq => tG_new hr4 (Out.new hq) g3 (den_newL g3.nt hq (by rw [cutV_eq, cutL_map]; exact denl_ints _))⟩
    | kscr hp =>
      cases eo
      exact .inl ⟨_, _, rfl, hp _, fun q hq => tG_new hr4 (Out.new hq) g3 (den_newL g3.nt hq (by rw [cutV_eq, cutL_map]; exact denl_ints _))⟩
  · cases hx3
    obtain ⟨hz, rfl⟩ := ite_some eo
    exact .inr (.inr ⟨_, rfl, line16 hz, tG_pure hr4 g3 (.str _)⟩)
  · cases eo
end
end DL
end

section
set_option Elab.async false
set_option linter.all false
set_option maxRecDepth 100000
set_option maxHeartbeats 2000000
set_option autoImplicit false
/-! DL5: fields, isinstance, built-in functions and methods by deep values. -/
namespace DL
open PySem PySem.Spec PyProof.Rows L2

/-! ### the classes of the program: a name and its instances' attributes -/
/-- what the written part says of the class c at C -/
structure CF (K : Fr) (C : Addr) (fs : List Str) : Prop where
  cl : Cls K C
  na : ∀ f ∈ fs, NoAttr K C f
  ha : PySem.W.findIn K (.ref C) "__class__" = some (some (.builtin "object.__class__"))
  hn : PySem.W.specialIn K (.builtin "object.__class__") "__get__" = some (some (.builtin "getset_descriptor.__get__"))
  htk : PySem.W.takesIn K (.builtin "object.__class__") = some true
  hm : PySem.W.mroIn K C (.type "object") = some true
  tf : ∀ n ∈ (["int", "bool", "str", "tuple", "list"] : List String), PySem.W.kitOne K (.ref C) (.type n) = some false
  ft : ∀ n ∈ (["NoneType", "int", "bool", "str", "tuple", "list"] : List String), PySem.W.kitOne K (.type n) (.ref C) = some false
abbrev Tbl := List (Str × List Str)
/-- of all classes of the table -/
structure CFs (K : Fr) (mg : Mg) (T : Tbl) : Prop where
  at_ : ∀ c fs, T.lookup c = some fs → ∃ C, mg c = some (.ref C) ∧ CF K C fs
  own : ∀ c c' C C', (T.lookup c).isSome = true → (T.lookup c').isSome = true → mg c = some (.ref C) → mg c' = some (.ref C') → PySem.W.kitOne K (.ref C) (.ref C') = some (decide (c = c'))

section
variable {X : Cx} {W : WX} {ea : Option (Addr × Addr)} {a b c e : Expr} {es : List Expr} {f g k : Sls → M D} {pos : Pos}

/-! ### o.f -/
def fldO (T : Tbl) (n : Str) : D → Option D
  | .obj c ns vs => match T.lookup c with
    | some fs => if fs.contains n then (ns.zip vs).lookup n else none
    | none => none
  | _ => none
def eFld (T : Tbl) (n : Str) (f : Sls → M D) : Sls → M D := fun ρ => f ρ >>= fun x => ofOpt (fldO T n x)
theorem lookup_zip {K : Fr} {mg : Mg} {bx : Option Addr} {O : List Addr} {H : Hp} {n : Str} {d : D} : ∀ {ns : List Str} {vs : List V} {ds : List D}, DenL K mg bx O H vs ds → (ns.zip ds).lookup n = some d → ∃ v, (ns.zip vs).lookup n = some v ∧ Den K mg bx O H v d
  | [], _, _, _, e => by cases e
  | m :: ns, _, _, .nil, e => by cases e
  | m :: ns, v :: vs, x :: ds, .cons h r, e => by
    have e2 : (match n == m with | true => some x | false => (ns.zip ds).lookup n) = some d := e
    show ∃ v', (match n == m with | true => some v | false => (ns.zip vs).lookup n) = some v' ∧ _
    cases q : n == m with
    | true => rw [q] at e2; cases e2; exact ⟨v, rfl, h⟩
    | false => rw [q] at e2; exact lookup_zip r e2
theorem de_fld {T : Tbl} (CT : CFs X.K X.mg T) {n : Str} (h : DE X W ea e f) (hb : attributeBase e n X.env (eval e X.env) = eval e X.env := by rfl) : DE X W ea (.Attribute e n pos) (eFld T n f) := by
  refine pe_weak (pe_fld h hb) fun σ H Q h => ?_
  refine tG_bind h fun bx O ω ρ x d1 H1 he hg hx hr => ?_
  obtain ⟨d, eo, hr2⟩ := retG_opt hr
  cases hx with
  | @obj c C a dx ns vs ds ha hc hH hl r =>
    unfold fldO at eo
    dsimp only at eo
    cases q : T.lookup c with
    | none => rw [q] at eo; cases eo
    | some fs =>
      rw [q] at eo
      dsimp only at eo
      by_cases hf : fs.contains n = true
      · rw [if_pos hf] at eo
        obtain ⟨C', hC, F⟩ := CT.at_ c fs q
        have eC : C' = C := by rw [hC] at hc; cases hc; rfl
        subst eC
        obtain ⟨v, hv, hd⟩ := lookup_zip r eo
        exact ⟨a, _, dx, _, v, rfl, hH, F.cl, F.na n (List.contains_iff_mem.mp hf), hv, tG_pure hr2 hg hd⟩
      · rw [if_neg hf] at eo; cases eo
  | _ => cases eo

/-! ### isinstance -/
inductive Kd where
  | ty (n : String)
  | own (c : Str)
def tyName : D → Option String
  | .non => some "NoneType"
  | .bl _ => some "bool"
  | .int _ => some "int"
  | .str _ => some "str"
  | .tup _ => some "tuple"
  | .lst _ => some "list"
  | .scr _ => some "list"
  | _ => none
def isO (T : Tbl) : Kd → D → Option Bool
  | .ty n, .obj c _ _ => if (T.lookup c).isSome = true ∧ n ∈ (["int", "bool", "str", "tuple", "list"] : List String) then some false else none
  | .own c, .obj c' _ _ => if (T.lookup c).isSome = true ∧ (T.lookup c').isSome = true then some (decide (c' = c)) else none
  | _, _ => none
def isK (T : Tbl) (q : Kd) (d : D) : Option Bool := match tyName d with
  | some t => (match q with
    | .ty n => kitB t n
    | .own c => if (T.lookup c).isSome = true then some false else none)
  | none => isO T q d
theorem tyx_of {K : Fr} {mg : Mg} {bx : Option Addr} {O : List Addr} {H : Hp} {v : V} {d : D} {t : String} (h : Den K mg bx O H v d) (e : tyName d = some t) : TyX K H v (.type t) ∧ t ∈ (["NoneType", "int", "bool", "str", "tuple", "list"] : List String) := by
  cases h with
  | non => cases e; exact ⟨.base .non, by simp⟩
  | bl b => cases e; exact ⟨.base (.bl b), by simp⟩
  | int b => cases e; exact ⟨.base (.int b), by simp⟩
  | str b => cases e; exact ⟨.base (.str b), by simp⟩
  | tup ha h r => cases e; exact ⟨.base (.tup h), by simp⟩
  | ktup h r =>
    cases e
    refine ⟨?_, by simp⟩
    rcases h (fun _ => none) with (z | ⟨o, z⟩) | ⟨o, its, n, hk, hc, _⟩
    · cases z
    · cases z
    · exact .kTuple hk hc
  | lst ha h r => cases e; exact ⟨.base (.lst h), by simp⟩
  | obj ha hc h hl r => cases e
  | box h => cases e
  | scr ha h => cases e; exact ⟨.base (.frz h), by simp⟩
  | kscr h =>
    cases e
    refine ⟨?_, by simp⟩
    rcases h (fun _ => none) with (z | ⟨o, z⟩) | ⟨o, its, n, hk, hc, _⟩
    · cases z
    · cases z
    · exact .kList hk hc
theorem obj_ty {K : Fr} {mg : Mg} {bx : Option Addr} {O : List Addr} {H : Hp} {v : V} {c : Str} {ns : List Str} {ds : List D} {T : Tbl} (CT : CFs K mg T) (ht : (T.lookup c).isSome = true) (h : Den K mg bx O H v (.obj c ns ds)) :
    ∃ C fs, mg c = some (.ref C) ∧ CF K C fs ∧ TyX K H v (.ref C) := by
  cases h with
  | obj ha hc h hl r =>
    obtain ⟨fs, q⟩ := Option.isSome_iff_exists.mp ht
    obtain ⟨C', hC, F⟩ := CT.at_ c fs q
    rw [hc] at hC
    cases hC
    exact ⟨_, fs, hc, F, .base (.ins h F.cl F.ha F.hn F.htk F.hm)⟩
/-- the value that a kind stands for -/
def Kd.of (mg : Mg) : Kd → Value → Prop
  | .ty n, u => u = .type n
  | .own c, u => ∃ C, mg c = some (.ref C) ∧ u = .ref C
theorem isK_ok {T : Tbl} (CT : CFs X.K X.mg T) {bx : Option Addr} {O : List Addr} {H : Hp} {v : V} {d : D} {q : Kd} {r : Bool} (h : Den X.K X.mg bx O H v d) (e : isK T q d = some r) :
    ∃ t, TyX X.K H v t ∧ ∀ u, q.of X.mg u → PySem.W.kitOne X.K t u = some r := by
  unfold isK at e
  cases e1 : tyName d with
  | some t =>
    rw [e1] at e
    obtain ⟨ht, hm⟩ := tyx_of h e1
    cases q with
    | ty n => exact ⟨_, ht, fun u hu => by cases hu; exact kit_ty e⟩
    | own c' =>
      obtain ⟨h3, rfl⟩ := ite_some e
      refine ⟨_, ht, fun u hu => ?_⟩
      obtain ⟨C', hC', rfl⟩ := hu
      obtain ⟨fs, q⟩ := Option.isSome_iff_exists.mp h3
      obtain ⟨C2, hC2, F⟩ := CT.at_ c' fs q
      rw [hC'] at hC2
      cases hC2
      exact F.ft t hm
  | none =>
    rw [e1] at e
    cases d with
    | obj c ns ds =>
      cases q with
      | ty n =>
        obtain ⟨⟨h1, h2⟩, rfl⟩ := ite_some e
        obtain ⟨C, fs, hc, F, t⟩ := obj_ty CT h1 h
        exact ⟨_, t, fun u hu => by cases hu; exact F.tf n h2⟩
      | own c' =>
        obtain ⟨⟨h1, h2⟩, rfl⟩ := ite_some e
        obtain ⟨C, fs, hc, F, t⟩ := obj_ty CT h2 h
        refine ⟨_, t, fun u hu => ?_⟩
        obtain ⟨C', hC', rfl⟩ := hu
        exact CT.own c c' C C' h2 h1 hc hC'
    | _ => cases q <;> cases e
/-- a class expression -/
def PKd (X : Cx) (e : Expr) (q : Kd) : Prop := ∃ (v : V) (u : Value), PE X e (tC v) ∧ ClsV v u ∧ q.of X.mg u
theorem pkd_ty {x : Str} {n : String} (hg : Gl X x) (hm : X.mg x = none) (hv : bootBuiltins x = some (.type n) := by decide +kernel) (hn : x ≠ "__name__" := by decide) (hd : (x == ("__debug__" : Str)) = false := by decide) : PKd X (.Name x pos) (.ty n) :=
  ⟨.ty n, .type n, pe_bltn hg hm hv rfl hn hd, .ty n, rfl⟩
theorem pkd_own {x : Str} {C : Addr} (hg : Gl X x) (hm : X.mg x = some (.ref C)) (hd : (x == ("__debug__" : Str)) = false := by decide) : PKd X (.Name x pos) (.own x) :=
  ⟨.ref C, .ref C, pe_glob hg hm rfl hd, .own C, C, hm, rfl⟩
def eIs (T : Tbl) (q : Kd) (f : Sls → M D) : Sls → M D := fun ρ => f ρ >>= fun x => ofOpt ((isK T q x).map D.bl)
theorem de_is {T : Tbl} (CT : CFs X.K X.mg T) {q : Kd} {p : Pos} (hg : Gl X "isinstance") (hm : X.mg "isinstance" = none) (ha : DE X W ea a f) (hb : PKd X b q) (he : starEach [a, b] X.env = (false, eval a X.env) :: starEach [b] X.env := by rfl)
    (he2 : starEach [b] X.env = (false, eval b X.env) :: starEach [] X.env := by rfl) (hpl : (backTo pos (starEach [b] X.env)).any (·.1) = false := by rfl) : DE X W ea (.Call (.Name "isinstance" p) [a, b] [] pos) (eIs T q f) := by
  obtain ⟨v, u, h1, h2, h3⟩ := hb
  refine pe_weak (pe_callB call_isi hg hm (by decide +kernel) (pa_cons ha (pa_cons h1 pa_nil he2) he) (by decide) (by decide) he hpl) fun σ H Q h => ?_
  refine tG_bind h fun bx O ω ρ x d1 H1 he hg hx hr => ?_
  obtain ⟨d, eo, hr⟩ := retG_opt hr
  obtain ⟨r, e2, rfl⟩ := Option.map_eq_some_iff.mp eo
  obtain ⟨t, ht, hk⟩ := isK_ok CT hx e2
  exact ⟨x, v, t, u, r, rfl, h2, ht, hk u h3, tG_pure hr hg (.bl _)⟩
/-- isinstance(x, (q1, q2)) of built-in types -/
def eIs2 (m n : String) (f : Sls → M D) : Sls → M D := fun ρ => f ρ >>= fun x => ofOpt ((tyName x).bind fun t => (kitB t m).bind fun r => if r then some (.bl true) else (kitB t n).map D.bl)
theorem de_is2 {m n : String} {p p2 pa pb : Pos} {kk : _} {x y : Str} (hg : Gl X "isinstance") (hm : X.mg "isinstance" = none) (ha : DE X W ea a f) (g1 : Gl X x) (m1 : X.mg x = none) (g2 : Gl X y) (m2 : X.mg y = none)
    (v1 : bootBuiltins x = some (.type m) := by decide +kernel) (v2 : bootBuiltins y = some (.type n) := by decide +kernel) (n1 : x ≠ "__name__" := by decide) (n2 : y ≠ "__name__" := by decide) (d1 : (x == ("__debug__" : Str)) = false := by decide) (d2 : (y == ("__debug__" : Str)) = false := by decide)
    (he : starEach [a, .Tuple [.Name x pa, .Name y pb] kk p2] X.env = (false, eval a X.env) :: starEach [.Tuple [.Name x pa, .Name y pb] kk p2] X.env := by rfl)
    (he2 : starEach [.Tuple [.Name x pa, .Name y pb] kk p2] X.env = (false, eval (.Tuple [.Name x pa, .Name y pb] kk p2) X.env) :: starEach [] X.env := by rfl) (hpl : (backTo pos (starEach [.Tuple [.Name x pa, .Name y pb] kk p2] X.env)).any (·.1) = false := by rfl) :
    DE X W ea (.Call (.Name "isinstance" p) [a, .Tuple [.Name x pa, .Name y pb] kk p2] [] pos) (eIs2 m n f) := by
  have t1 : PE X (.Tuple [.Name x pa, .Name y pb] kk p2) (tTup (tCons (tC (.ty m)) (tCons (tC (.ty n)) tNil))) := pe_tup (pa_cons (pe_bltn g1 m1 v1 rfl n1 d1) (pa_cons (pe_bltn g2 m2 v2 rfl n2 d2) pa_nil))
  refine pe_weak (pe_callB call_isiT hg hm (by decide +kernel) (pa_cons ha (pa_cons t1 pa_nil he2) he) (by decide) (by decide) he hpl) fun σ H Q h => ?_
  refine tG_bind h fun bx O ω ρ x d1 H1 he hg hx hr => ?_
  obtain ⟨d, eo, hr⟩ := retG_opt hr
  obtain ⟨t, e1, e2⟩ := Option.bind_eq_some_iff.mp eo
  obtain ⟨r, e3, e4⟩ := Option.bind_eq_some_iff.mp e2
  obtain ⟨ht, _⟩ := tyx_of hx e1
  refine ⟨by show 2 ≤ sizeLine; decide, fun q hq => ?_⟩
  have mk : ∀ bb : Bool, d = .bl bb → PySem.W.kitAny X.K (.type t) [.type m, .type n] = some bb → L2.rIsiT X.K [x, .ref q] (upd H1 q (.tup [.ty m, .ty n])) Q := fun bb ed ek => by
    subst ed
    have ht2 : TyX X.K (upd H1 q (.tup [.ty m, .ty n])) x (.type t) := (tyx_of (hx.step (Out.new hq)) e1).1
    exact ⟨x, q, _, _, _, bb, rfl, upd_same, .cons (.ty m) (.cons (.ty n) .nil), ht2, ek, tG_new hr (Out.new hq) hg (.bl _)⟩
  cases r with
  | true =>
    cases e4
    exact mk true rfl (kitAny_cons (kit_ty e3) (fun z => by cases z) fun _ => rfl)
  | false =>
    obtain ⟨r2, e5, rfl⟩ := Option.map_eq_some_iff.mp e4
    refine mk r2 rfl (kitAny_cons (b := false) (kit_ty e3) (fun _ => kitAny_cons (kit_ty e5) (fun z => by subst z; exact kitAny_nil) fun z => z) fun z => by cases z)

/-! ### built-in functions -/
def rC (K : Fr) (mg : Mg) (op : List D → Option D) : List V → Hp → VK → Prop := fun vs H Q => ∃ bx O ds d, op ds = some d ∧ (∀ a ∈ O, ∃ o, H a = some o ∧ ∀ vs, o ≠ .tup vs) ∧ DenL K mg bx O H vs ds ∧ ∀ v H', Out [] H H' → Den K mg bx O H' v d → Q v H'
def eCB (op : List D → Option D) (r : Sls → M (List D)) : Sls → M D := fun ρ => r ρ >>= fun xs => ofOpt (op xs)
theorem cb_go {op : List D → Option D} {r : Sls → M (List D)} {σ : L2.St} {H : Hp} {Q : VK} (h : tE X.K X.mg W ea (eCB op r) σ H Q) : tA X.K X.mg W ea r σ H fun vs H1 => rC X.K X.mg op vs H1 Q := by
  refine tG_bind h fun bx O ω ρ x d1 H1 he hg hx hr => ?_
  obtain ⟨d, eo, hr⟩ := retG_opt hr
  exact ⟨bx, O, d1, d, eo, hg.nt, hx, fun v H' s' hv => tG_new hr s' hg hv⟩
theorem de_cb {op : List D → Option D} {r : Sls → M (List D)} {id : String} {x : Str} {p : Pos} (hc : CallR X (.builtin id) (rC X.K X.mg op)) (hg : Gl X x) (hm : X.mg x = none) (ha : DA X W ea (e :: es) r) (hv : bootBuiltins x = some (.builtin id) := by decide +kernel) (hn : x ≠ "__name__" := by decide) (hdb : (x == ("__debug__" : Str)) = false := by decide)
    (he : starEach (e :: es) X.env = (false, eval e X.env) :: starEach es X.env := by rfl) (hpl : (backTo pos (starEach es X.env)).any (·.1) = false := by rfl) : DE X W ea (.Call (.Name x p) (e :: es) [] pos) (eCB op r) :=
  pe_weak (pe_callB hc hg hm hv ha hn hdb he hpl) fun _ _ _ h => cb_go h
theorem de_ct {op : List D → Option D} {r : Sls → M (List D)} {id : String} {x : Str} {p : Pos} (hc : CallR X (.type id) (rC X.K X.mg op)) (hg : Gl X x) (hm : X.mg x = none) (ha : DA X W ea (e :: es) r) (hv : bootBuiltins x = some (.type id) := by decide +kernel) (hn : x ≠ "__name__" := by decide) (hdb : (x == ("__debug__" : Str)) = false := by decide)
    (he : starEach (e :: es) X.env = (false, eval e X.env) :: starEach es X.env := by rfl) (hpl : (backTo pos (starEach es X.env)).any (·.1) = false := by rfl) : DE X W ea (.Call (.Name x p) (e :: es) [] pos) (eCB op r) :=
  pe_weak (pe_callTy hc hg hm hv ha hn hdb he hpl) fun _ _ _ h => cb_go h
theorem de_cf {op : List D → Option D} {r : Sls → M (List D)} {id : String} {x : Str} {p : Pos} (hc : CallR X (.builtin id) (rC X.K X.mg op)) (hg : Gl X x) (hm : X.mg x = some (.builtin id)) (ha : DA X W ea (e :: es) r) (hdb : (x == ("__debug__" : Str)) = false := by decide)
    (he : starEach (e :: es) X.env = (false, eval e X.env) :: starEach es X.env := by rfl) (hpl : (backTo pos (starEach es X.env)).any (·.1) = false := by rfl) : DE X W ea (.Call (.Name x p) (e :: es) [] pos) (eCB op r) :=
  pe_weak (pe_callBfun hc hg hm ha hdb he hpl) fun _ _ _ h => cb_go h
theorem callD_mk {fv : Value} {op : List D → Option D}
    (h : ∀ (pins : List (Addr × Obj)) (s : Shared) (σ : L2.St) (H : Hp) (xs : List V) (us : List Value) (Q : VK) (bx : Option Addr) (O : List Addr) (ds : List D) (d : D), Inv X pins σ H s → Vals xs us → op ds = some d →
      (∀ a ∈ O, ∃ o, H a = some o ∧ ∀ vs, o ≠ .tup vs) → DenL X.K X.mg bx O H xs ds → (∀ v H', Out [] H H' → Den X.K X.mg bx O H' v d → Q v H') → wpAny (model X.prog X.w) X.A (call fv us) (EP X pins σ Q) X.xe s) :
    CallR X fv (rC X.K X.mg op) := fun pins s σ H xs us Q I r ⟨bx, O, ds, d, e, nt, hd, k⟩ => h pins s σ H xs us Q bx O ds d I r e nt hd k
def lenO : List D → Option D
  | [.lst xs] => some (.int xs.length)
  | [.tup xs] => some (.int xs.length)
  | [.str z] => if z.length ≤ 16000000 then some (.int z.length) else none
  | _ => none
theorem den1 {K : Fr} {mg : Mg} {bx : Option Addr} {O : List Addr} {H : Hp} {vs : List V} {d : D} (h : DenL K mg bx O H vs [d]) : ∃ v, vs = [v] ∧ Den K mg bx O H v d := by
  cases h with
  | cons h r => cases r; exact ⟨_, rfl, h⟩
theorem den2 {K : Fr} {mg : Mg} {bx : Option Addr} {O : List Addr} {H : Hp} {vs : List V} {d d' : D} (h : DenL K mg bx O H vs [d, d']) : ∃ v v', vs = [v, v'] ∧ Den K mg bx O H v d ∧ Den K mg bx O H v' d' := by
  cases h with
  | cons h r =>
    cases r with
    | cons h' r => cases r; exact ⟨_, _, rfl, h, h'⟩
theorem cr_lenO : CallR X (.builtin "len") (rC X.K X.mg lenO) := callD_mk fun pins s σ H xs us Q bx O ds d I r e nt hd k => by
  unfold lenO at e
  split at e
  · obtain ⟨v, rfl, hv⟩ := den1 hd
    obtain ⟨a, vs, rfl, _, ha, hr⟩ := den_lst hv
    cases e
    exact call_len_seq pins s σ H _ us Q I r ⟨a, vs, rfl, .inl (.of ha), by rw [hr.length]; exact k _ H Out.refl (.int _)⟩
  · obtain ⟨v, rfl, hv⟩ := den1 hd
    obtain ⟨a, vs, rfl, ha, hr⟩ := den_tup hv
    cases e
    exact call_len_seq pins s σ H _ us Q I r ⟨a, vs, rfl, .inr ha, by rw [hr.length]; exact k _ H Out.refl (.int _)⟩
  · obtain ⟨v, rfl, hv⟩ := den1 hd
    cases hv
    obtain ⟨hz, rfl⟩ := ite_some e
    exact call_len_str pins s σ H _ us Q I r ⟨_, rfl, line16 hz, k _ H Out.refl (.int _)⟩
  · cases e
def absO : List D → Option D
  | [.int i] => some (.int (if i < 0 then -i else i))
  | _ => none
theorem cr_absO : CallR X (.builtin "abs") (rC X.K X.mg absO) := callD_mk fun pins s σ H xs us Q bx O ds d I r e nt hd k => by
  unfold absO at e
  split at e
  · obtain ⟨v, rfl, hv⟩ := den1 hd
    cases hv; cases e
    exact call_abs pins s σ H _ us Q I r ⟨_, rfl, k _ H Out.refl (.int _)⟩
  · cases e
def intO : List D → Option D
  | [.int i] => some (.int i)
  | [.bl b] => some (.int (if b then 1 else 0))
  | [.str z] => if z.length ≤ 640 then (PySem.intText? z).map D.int else none
  | _ => none
theorem cr_intO : CallR X (.type "int") (rC X.K X.mg intO) := callD_mk fun pins s σ H xs us Q bx O ds d I r e nt hd k => by
  unfold intO at e
  split at e
  · obtain ⟨v, rfl, hv⟩ := den1 hd
    cases hv; cases e
    exact call_int1 pins s σ H _ us Q I r (.inl ⟨_, rfl, k _ H Out.refl (.int _)⟩)
  · obtain ⟨v, rfl, hv⟩ := den1 hd
    cases hv; cases e
    exact call_int1 pins s σ H _ us Q I r (.inr ⟨_, rfl, k _ H Out.refl (.int _)⟩)
  · obtain ⟨v, rfl, hv⟩ := den1 hd
    cases hv
    rename_i z
    by_cases hz : z.length ≤ 640
    · rw [if_pos hz] at e
      obtain ⟨n, en, rfl⟩ := Option.map_eq_some_iff.mp e
      exact call_int_str pins s σ H _ us Q I r ⟨_, n, rfl, en, hz, k _ H Out.refl (.int _)⟩
    · rw [if_neg hz] at e; cases e
  · cases e
def strO : List D → Option D
  | [.int i] => if i.natAbs.log2 < 1920 then some (.str (toString i)) else none
  | [.str z] => some (.str z)
  | _ => none
theorem cr_strO : CallR X (.type "str") (rC X.K X.mg (fun ds => match ds with | [.int i] => strO [.int i] | _ => none)) := callD_mk fun pins s σ H xs us Q bx O ds d I r e nt hd k => by
  split at e
  · obtain ⟨v, rfl, hv⟩ := den1 hd
    cases hv
    obtain ⟨hz, rfl⟩ := ite_some e
    exact call_str_int pins s σ H _ us Q I r ⟨_, rfl, hz, k _ H Out.refl (.str _)⟩
  · cases e
def listO : List D → Option D
  | [.lst xs] => some (.lst xs)
  | [.tup xs] => some (.lst xs)
  | _ => none
theorem cr_listO : CallR X (.type "list") (rC X.K X.mg listO) := callD_mk fun pins s σ H xs us Q bx O ds d I r e nt hd k => by
  unfold listO at e
  split at e
  · obtain ⟨v, rfl, hv⟩ := den1 hd
    obtain ⟨a, vs, rfl, _, ha, hr⟩ := den_lst hv
    cases e
    exact call_list_of pins s σ H _ us Q I r ⟨a, vs, rfl, .inl (.of ha), fun l hl => k _ _ (Out.new hl) (den_newL nt hl hr)⟩
  · obtain ⟨v, rfl, hv⟩ := den1 hd
    obtain ⟨a, vs, rfl, ha, hr⟩ := den_tup hv
    cases e
    exact call_list_of pins s σ H _ us Q I r ⟨a, vs, rfl, .inr ha, fun l hl => k _ _ (Out.new hl) (den_newL nt hl hr)⟩
  · cases e
def tupO : List D → Option D
  | [.lst xs] => some (.tup xs)
  | [.tup xs] => some (.tup xs)
  | _ => none
theorem cr_tupO : CallR X (.type "tuple") (rC X.K X.mg tupO) := callD_mk fun pins s σ H xs us Q bx O ds d I r e nt hd k => by
  unfold tupO at e
  split at e
  · obtain ⟨v, rfl, hv⟩ := den1 hd
    obtain ⟨a, vs, rfl, _, ha, hr⟩ := den_lst hv
    cases e
    exact call_tuple_of pins s σ H _ us Q I r ⟨a, vs, rfl, .inl ⟨.of ha, fun l hl => k _ _ (Out.new hl) (den_newT nt hl hr)⟩⟩
  · obtain ⟨v, rfl, hv⟩ := den1 hd
    obtain ⟨a, vs, rfl, ha, hr⟩ := den_tup hv
    cases e
    exact call_tuple_of pins s σ H _ us Q I r ⟨a, vs, rfl, .inr ⟨ha, k _ H Out.refl hv⟩⟩
  · cases e
def gcdO : List D → Option D
  | [.int i, .int j] => some (.int (Nat.gcd i.natAbs j.natAbs : Nat))
  | _ => none
theorem cr_gcdO : CallR X (.builtin "math.gcd") (rC X.K X.mg gcdO) := callD_mk fun pins s σ H xs us Q bx O ds d I r e nt hd k => by
  unfold gcdO at e
  split at e
  · obtain ⟨v, v', rfl, hv, hv'⟩ := den2 hd
    cases hv; cases hv'; cases e
    exact cr_gcd pins s σ H _ us Q I r ⟨_, _, rfl, k _ H Out.refl (.int _)⟩
  · cases e
def asIs : List D → Option (List Int)
  | [] => some []
  | .int i :: r => (asIs r).map fun ns => i :: ns
  | _ :: _ => none
theorem asIs_eq : ∀ {ds : List D} {ns : List Int}, asIs ds = some ns → ds = ns.map D.int
  | [], ns, e => by cases e; rfl
  | .int i :: r, ns, e => by
    obtain ⟨ms, e1, rfl⟩ := Option.map_eq_some_iff.mp (show (asIs r).map (fun ns => i :: ns) = some ns from e)
    rw [asIs_eq e1]
    rfl
def asBs : List D → Option (List Bool)
  | [] => some []
  | .bl i :: r => (asBs r).map fun ns => i :: ns
  | _ :: _ => none
theorem asBs_eq : ∀ {ds : List D} {ns : List Bool}, asBs ds = some ns → ds = ns.map D.bl
  | [], ns, e => by cases e; rfl
  | .bl i :: r, ns, e => by
    obtain ⟨ms, e1, rfl⟩ := Option.map_eq_some_iff.mp (show (asBs r).map (fun ns => i :: ns) = some ns from e)
    rw [asBs_eq e1]
    rfl
def asSs : List D → Option (List Str)
  | [] => some []
  | .str i :: r => (asSs r).map fun ns => i :: ns
  | _ :: _ => none
theorem asSs_eq : ∀ {ds : List D} {ns : List Str}, asSs ds = some ns → ds = ns.map D.str
  | [], ns, e => by cases e; rfl
  | .str i :: r, ns, e => by
    obtain ⟨ms, e1, rfl⟩ := Option.map_eq_some_iff.mp (show (asSs r).map (fun ns => i :: ns) = some ns from e)
    rw [asSs_eq e1]
    rfl
def sumO : List D → Option D
  | [.lst xs] => (asIs xs).map fun ns => .int ns.sum
  | _ => none
theorem cr_sumO (hc : X.calm = true) : CallR X (.builtin "sum") (rC X.K X.mg sumO) := callD_mk fun pins s σ H xs us Q bx O ds d I r e nt hd k => by
  unfold sumO at e
  split at e
  · obtain ⟨v, rfl, hv⟩ := den1 hd
    obtain ⟨a, vs, rfl, _, ha, hr⟩ := den_lst hv
    obtain ⟨ns, en, rfl⟩ := Option.map_eq_some_iff.mp e
    rw [asIs_eq en] at hr
    rw [DenL.of_ints hr] at ha
    exact cr_sum hc pins s σ H _ us Q I r ⟨a, ns, rfl, .of ha, k _ H Out.refl (.int _)⟩
  · cases e
def allO : List D → Option D
  | [.lst xs] => (asBs xs).map fun ns => .bl (ns.all id)
  | _ => none
theorem cr_allO (hc : X.calm = true) : CallR X (.builtin "all") (rC X.K X.mg allO) := callD_mk fun pins s σ H xs us Q bx O ds d I r e nt hd k => by
  unfold allO at e
  split at e
  · obtain ⟨v, rfl, hv⟩ := den1 hd
    obtain ⟨a, vs, rfl, _, ha, hr⟩ := den_lst hv
    obtain ⟨ns, en, rfl⟩ := Option.map_eq_some_iff.mp e
    rw [asBs_eq en] at hr
    rw [DenL.of_bls hr] at ha
    exact cr_all hc pins s σ H _ us Q I r ⟨a, ns, rfl, .of ha, k _ H Out.refl (.bl _)⟩
  · cases e
def anyO : List D → Option D
  | [.lst xs] => (asBs xs).map fun ns => .bl (ns.any id)
  | _ => none
theorem cr_anyO (hc : X.calm = true) : CallR X (.builtin "any") (rC X.K X.mg anyO) := callD_mk fun pins s σ H xs us Q bx O ds d I r e nt hd k => by
  unfold anyO at e
  split at e
  · obtain ⟨v, rfl, hv⟩ := den1 hd
    obtain ⟨a, vs, rfl, _, ha, hr⟩ := den_lst hv
    obtain ⟨ns, en, rfl⟩ := Option.map_eq_some_iff.mp e
    rw [asBs_eq en] at hr
    rw [DenL.of_bls hr] at ha
    exact cr_any hc pins s σ H _ us Q I r ⟨a, ns, rfl, .of ha, k _ H Out.refl (.bl _)⟩
  · cases e
def max2O : List D → Option D
  | [.int i, .int j] => some (.int (max i j))
  | _ => none
theorem cr_max2O (hc : X.calm = true) : CallR X (.builtin "max") (rC X.K X.mg max2O) := callD_mk fun pins s σ H xs us Q bx O ds d I r e nt hd k => by
  unfold max2O at e
  split at e
  · obtain ⟨v, v', rfl, hv, hv'⟩ := den2 hd
    cases hv; cases hv'; cases e
    refine call_max2 hc pins s σ H _ us Q I r ⟨_, _, rfl, ?_⟩
    rename_i i j
    have e : (if j > i then j else i) = max i j := by split <;> omega
    rw [e]
    exact k _ H Out.refl (.int _)
  · cases e
def min2O : List D → Option D
  | [.int i, .int j] => some (.int (min i j))
  | _ => none
theorem cr_min2O (hc : X.calm = true) : CallR X (.builtin "min") (rC X.K X.mg min2O) := callD_mk fun pins s σ H xs us Q bx O ds d I r e nt hd k => by
  unfold min2O at e
  split at e
  · obtain ⟨v, v', rfl, hv, hv'⟩ := den2 hd
    cases hv; cases hv'; cases e
    refine call_min2 hc pins s σ H _ us Q I r ⟨_, _, rfl, ?_⟩
    rename_i i j
    have e : (if j < i then j else i) = min i j := by split <;> omega
    rw [e]
    exact k _ H Out.refl (.int _)
  · cases e
end
end DL
end

section
set_option Elab.async false
set_option linter.all false
set_option maxRecDepth 100000
set_option maxHeartbeats 2000000
set_option autoImplicit false
/-! DL6: methods of built-in types; what is walked; comprehensions. -/
namespace DL
open PySem PySem.Spec PyProof.Rows L2

section
variable {X : Cx} {W : WX} {ea : Option (Addr × Addr)} {a b c e o : Expr} {es : List Expr} {f g k : Sls → M D} {pos : Pos}

/-! ### methods of texts -/
def rM (K : Fr) (mg : Mg) (op : Str → List D → Option D) : V → List V → Hp → VK → Prop := fun x xs H Q => ∃ bx O z ds d, x = .str z ∧ op z ds = some d ∧ (∀ a ∈ O, ∃ o, H a = some o ∧ ∀ vs, o ≠ .tup vs) ∧ DenL K mg bx O H xs ds ∧ ∀ v H', Out [] H H' → Den K mg bx O H' v d → Q v H'
def asS : D → Option Str
  | .str z => some z
  | _ => none
def eM (op : Str → List D → Option D) (f : Sls → M D) (r : Sls → M (List D)) : Sls → M D := fun ρ => f ρ >>= fun x => ofOpt (asS x) >>= fun z => r ρ >>= fun xs => ofOpt (op z xs)
theorem de_m0 {op : Str → List D → Option D} {name : Str} {apos cpos : Pos} {id : String} (slot : Slot "str" name id) (hty : typeOf (.builtin id) = pure (.type "method_descriptor")) (hm : MtR X id (rM X.K X.mg op)) (ho : DE X W ea o f)
    (hbase : attributeBase o name X.env (eval o X.env) = eval o X.env := by rfl) (hline : (apos.endLine == cpos.line) = true := by rfl) : DE X W ea (.Call (.Attribute o name apos) [] [] cpos) (eM op f aNil) := by
  refine pe_weak (pe_bm0 PySem.F.plainAttrs_str slot hty hm ho hbase hline) fun σ H Q h => ?_
  refine tG_bind h fun bx O ω ρ x d1 H1 he hg hx hr => ?_
  cases d1 with
  | str z =>
    cases hx
    obtain ⟨d, eo, hr⟩ := retG_opt (show RetG X.K X.mg W bx O σ H1 (relD X.K X.mg bx O) Q ((ofOpt (op z []) : M D).run ω) from hr)
    exact ⟨rfl, bx, O, z, [], d, rfl, eo, hg.nt, .nil, fun v H' s' hv => tG_new hr s' hg hv⟩
  | _ => exact hr.elim
theorem de_m {op : Str → List D → Option D} {name : Str} {apos cpos : Pos} {id : String} {r : Sls → M (List D)} (slot : Slot "str" name id) (hty : typeOf (.builtin id) = pure (.type "method_descriptor")) (hm : MtR X id (rM X.K X.mg op)) (ho : DE X W ea o f) (ha : DA X W ea (e :: es) r)
    (hbase : attributeBase o name X.env (eval o X.env) = eval o X.env := by rfl)
    (hfew : ((backTo cpos (starEach (e :: es) X.env)).all (fun x => !x.1) && (backToKw cpos (keywordEach [] X.env)).all (fun x => x.1.isSome)
      && decide ((e :: es).length + ([] : List Keyword).length + (if ([] : List Keyword).isEmpty then 0 else 1) < 30)) = true := by rfl)
    (hline : (apos.endLine == cpos.line) = true := by rfl) (hs : starEach (e :: es) X.env = (false, eval e X.env) :: starEach es X.env := by rfl) (hplain : (backTo cpos (starEach es X.env)).any (·.1) = false := by rfl) :
    DE X W ea (.Call (.Attribute o name apos) (e :: es) [] cpos) (eM op f r) := by
  refine pe_weak (pe_bm PySem.F.plainAttrs_str slot hty hm ho ha hbase hfew hline hs hplain) fun σ H Q h => ?_
  refine tG_bind h fun bx O ω ρ x d1 H1 he hg hx hr => ?_
  cases d1 with
  | str z =>
    cases hx
    refine ⟨rfl, ?_⟩
    refine two_at (q := fun xs => ofOpt (op z xs)) he hg hr fun ds ω1 vs H2 s2 o2 he2 g2 hv hr2 => ?_
    obtain ⟨d, eo, hr3⟩ := retG_opt hr2
    exact ⟨bx, O, z, ds, d, rfl, eo, g2.nt, hv, fun v H' s' hv => tG_new hr3 s' g2 hv⟩
  | _ => exact hr.elim
theorem mtD_mk {id : String} {op : Str → List D → Option D}
    (h : ∀ (pins : List (Addr × Obj)) (s : Shared) (σ : L2.St) (H : Hp) (z : Str) (xs : List V) (v : Value) (us : List Value) (Q : VK) (bx : Option Addr) (O : List Addr) (ds : List D) (d : D), Inv X pins σ H s → RelV (.str z) v → Vals xs us → op z ds = some d →
      (∀ a ∈ O, ∃ o, H a = some o ∧ ∀ vs, o ≠ .tup vs) → DenL X.K X.mg bx O H xs ds → (∀ v H', Out [] H H' → Den X.K X.mg bx O H' v d → Q v H') → wpAny (model X.prog X.w) X.A (call (.builtin id) (v :: us)) (EP X pins σ Q) X.xe s) :
    MtR X id (rM X.K X.mg op) := fun pins s σ H x xs v us Q I rx r ⟨bx, O, z, ds, d, ex, e, nt, hd, k⟩ => by
  subst ex
  exact h pins s σ H z xs v us Q bx O ds d I rx r e nt hd k
def startsO (z : Str) : List D → Option D
  | [.str y] => some (.bl (Txt.startswith z y))
  | _ => none
theorem mt_startsO : MtR X "str.startswith" (rM X.K X.mg startsO) := mtD_mk fun pins s σ H z xs v us Q bx O ds d I rx r e nt hd k => by
  unfold startsO at e
  split at e
  · obtain ⟨v1, rfl, hv⟩ := den1 hd
    cases hv; cases e
    exact mt_startswith pins s σ H _ _ v us Q I rx r ⟨_, _, rfl, rfl, k _ H Out.refl (.bl _)⟩
  · cases e
def isasciiO (z : Str) : List D → Option D
  | [] => some (.bl (Txt.isascii z))
  | _ => none
theorem mt_isasciiO : MtR X "str.isascii" (rM X.K X.mg isasciiO) := mtD_mk fun pins s σ H z xs v us Q bx O ds d I rx r e nt hd k => by
  unfold isasciiO at e
  split at e
  · cases hd; cases e
    exact mt_isascii pins s σ H _ _ v us Q I rx r ⟨_, rfl, rfl, trivial, k _ H Out.refl (.bl _)⟩
  · cases e
def isdigitO (z : Str) : List D → Option D
  | [] => some (.bl (Txt.isdigit z))
  | _ => none
theorem mt_isdigitO : MtR X "str.isdigit" (rM X.K X.mg isdigitO) := mtD_mk fun pins s σ H z xs v us Q bx O ds d I rx r e nt hd k => by
  unfold isdigitO at e
  split at e
  · cases hd; cases e
    exact mt_isdigit pins s σ H _ _ v us Q I rx r ⟨_, rfl, rfl, trivial, k _ H Out.refl (.bl _)⟩
  · cases e
def splitO (z : Str) : List D → Option D
  | [.str y] => if (y.length == 0) = false ∧ z.length ≤ 16000000 then some (.lst ((Txt.split z y).map D.str)) else none
  | _ => none
theorem mt_splitO : MtR X "str.split" (rM X.K X.mg splitO) := mtD_mk fun pins s σ H z xs v us Q bx O ds d I rx r e nt hd k => by
  unfold splitO at e
  split at e
  · obtain ⟨v1, rfl, hv⟩ := den1 hd
    cases hv
    obtain ⟨⟨h1, h2⟩, rfl⟩ := ite_some e
    exact mt_split pins s σ H _ _ v us Q I rx r ⟨_, _, rfl, rfl, h1, by rw [sizeLine_eq]; omega, fun p hp => k _ _ (Out.new hp) (den_newL nt hp (DenL.strs _))⟩
  · cases e
def partO (z : Str) : List D → Option D
  | [.str y] => if (y.length == 0) = false ∧ z.length ≤ 16000000 then some (.tup [.str (Txt.partition z y).1, .str (Txt.partition z y).2.1, .str (Txt.partition z y).2.2]) else none
  | _ => none
theorem mt_partO : MtR X "str.partition" (rM X.K X.mg partO) := mtD_mk fun pins s σ H z xs v us Q bx O ds d I rx r e nt hd k => by
  unfold partO at e
  split at e
  · obtain ⟨v1, rfl, hv⟩ := den1 hd
    cases hv
    obtain ⟨⟨h1, h2⟩, rfl⟩ := ite_some e
    exact mt_partition pins s σ H _ _ v us Q I rx r ⟨_, _, rfl, rfl, h1, line16 h2, fun p hp => k _ _ (Out.new hp) (den_newT nt hp (.cons (.str _) (.cons (.str _) (.cons (.str _) .nil))))⟩
  · cases e
def joinO (z : Str) : List D → Option D
  | [.lst xs] => (asSs xs).bind fun ys => if (ys.map (·.length)).sum + ys.length * z.length ≤ 16777216 then some (.str (Txt.join z ys)) else none
  | _ => none
theorem mt_joinO : MtR X "str.join" (rM X.K X.mg joinO) := mtD_mk fun pins s σ H z xs v us Q bx O ds d I rx r e nt hd k => by
  unfold joinO at e
  split at e
  · obtain ⟨v1, rfl, hv⟩ := den1 hd
    obtain ⟨a, vs, rfl, _, ha, hr⟩ := den_lst hv
    obtain ⟨ys, ey, e2⟩ := Option.bind_eq_some_iff.mp e
    obtain ⟨hz, rfl⟩ := ite_some e2
    rw [asSs_eq ey] at hr
    rw [DenL.of_strs hr] at ha
    exact mt_join pins s σ H _ _ v us Q I rx r ⟨_, a, ys, rfl, rfl, .inl (.of ha), hz, k _ H Out.refl (.str _)⟩
  · cases e
def zfillO (z : Str) : List D → Option D
  | [.int i] => if PadOk i = true then some (.str (Txt.zfill z i)) else none
  | _ => none
theorem mt_zfillO : MtR X "str.zfill" (rM X.K X.mg zfillO) := mtD_mk fun pins s σ H z xs v us Q bx O ds d I rx r e nt hd k => by
  unfold zfillO at e
  split at e
  · obtain ⟨v1, rfl, hv⟩ := den1 hd
    cases hv
    obtain ⟨h1, rfl⟩ := ite_some e
    exact mt_zfill pins s σ H _ _ v us Q I rx r ⟨_, _, rfl, rfl, h1, k _ H Out.refl (.str _)⟩
  · cases e
def lstripO (z : Str) : List D → Option D
  | [.str y] => if z.length ≤ 16000000 then some (.str (Txt.lstripChars z y)) else none
  | _ => none
theorem mt_lstripO : MtR X "str.lstrip" (rM X.K X.mg lstripO) := mtD_mk fun pins s σ H z xs v us Q bx O ds d I rx r e nt hd k => by
  unfold lstripO at e
  split at e
  · obtain ⟨v1, rfl, hv⟩ := den1 hd
    cases hv
    obtain ⟨h1, rfl⟩ := ite_some e
    exact mt_lstripChars pins s σ H _ _ v us Q I rx r ⟨_, _, rfl, rfl, line16 h1, k _ H Out.refl (.str _)⟩
  · cases e
/-- i.bit_length() -/
def bitsO : D → Option D
  | .int i => some (.int (nb i : Nat))
  | _ => none
theorem de_bits {apos : Pos} (ho : DE X W ea o f) (hbase : attributeBase o "bit_length" X.env (eval o X.env) = eval o X.env := by rfl) (hline : (apos.endLine == pos.line) = true := by rfl) : DE X W ea (.Call (.Attribute o "bit_length" apos) [] [] pos) (eUn bitsO f) := by
  refine pe_weak (pe_bits ho hbase hline) fun σ H Q h => ?_
  refine tG_bind h fun bx O ω ρ x d1 H1 he hg hx hr => ?_
  obtain ⟨d, eo, hr2⟩ := retG_opt hr
  cases d1 with
  | int i => cases hx; cases eo; exact ⟨i, rfl, tG_pure hr2 hg (.int _)⟩
  | _ => cases eo

/-! ### what is walked -/
structure Itd (K : Fr) (mg : Mg) (bx : Option Addr) (J : It) (ds : List D) (P : List Addr → Hp → Prop) : Prop where
  step : ∀ O H H', Out O H H' → P O H → P O H'
  more : ∀ O O' H, (∀ a ∈ O', a ∈ O ∨ H a = none) → P O H → P O' H
  go : ∀ i O H, P O H → i < ds.length → J.go i H
  stop : ∀ i O H, P O H → ds.length ≤ i → J.stop i H
  yld : ∀ i O H x H', P O H → (∀ a ∈ O, ∃ o, H a = some o ∧ ∀ vs, o ≠ .tup vs) → i < ds.length → J.yld i H x H' → Out [] H H' ∧ ∃ d, ds[i]? = some d ∧ Den K mg bx O H' x d
def relI (K : Fr) (mg : Mg) (bx : Option Addr) (O : List Addr) (H : Hp) (J : It) (ds : List D) : Prop := ∃ P, Itd K mg bx J ds P ∧ P O H
abbrev tI (K : Fr) (mg : Mg) (W : WX) (ea : Option (Addr × Addr)) (f : Sls → M (List D)) : TI := tG K mg W ea (relI K mg) f
abbrev DI (X : Cx) (W : WX) (ea : Option (Addr × Addr)) (tg e : Expr) (f : Sls → M (List D)) : Prop := PI X tg e (tI X.K X.mg W ea f)
theorem pi_weak {X : Cx} {tg e : Expr} {t t' : TI} (h : PI X tg e t) (w : ∀ σ H Q, t' σ H Q → t σ H Q) : PI X tg e t' := ⟨fun pins s σ H Q I hq => h.run pins s σ H Q I (w σ H Q hq)⟩
theorem itd_list {K : Fr} {mg : Mg} {bx : Option Addr} {p : Addr} {vs : List V} {ds : List D} : Itd K mg bx (Itl K p) ds (fun O H => (p ∉ O ∧ H p = some (.lst vs)) ∧ DenL K mg bx O H vs ds) where
  step := fun O H H' s ⟨⟨h1, h2⟩, h3⟩ => ⟨⟨h1, s _ _ h2 h1⟩, h3.step s⟩
  more := fun O O' H s ⟨⟨h1, h2⟩, h3⟩ => ⟨⟨fun z => (s _ z).elim h1 fun n => (by rw [h2] at n; cases n), h2⟩, h3.more s⟩
  go := fun i O H ⟨⟨h1, h2⟩, h3⟩ hi => by
    have hv : i < vs.length := by rw [h3.length]; exact hi
    exact ⟨vs, vs[i], .of h2, by simp [hv]⟩
  stop := fun i O H ⟨⟨h1, h2⟩, h3⟩ hi => ⟨vs, .of h2, by rw [h3.length]; exact hi⟩
  yld := fun i O H x H' ⟨⟨h1, h2⟩, h3⟩ _ hi y => by
    obtain ⟨e, y⟩ := y
    subst e
    obtain ⟨d, ed, hd⟩ := h3.getV (y vs (.of h2))
    exact ⟨Out.refl, d, ed, hd⟩
theorem itd_tup {K : Fr} {mg : Mg} {bx : Option Addr} {p : Addr} {vs : List V} {ds : List D} : Itd K mg bx (Itt K p) ds (fun O H => ((p ∉ O ∧ H p = some (.tup vs)) ∨ ∀ H', SqT K H' p vs) ∧ DenL K mg bx O H vs ds) := by
  have sq : ∀ {O : List Addr} {H : Hp}, ((p ∉ O ∧ H p = some (.tup vs)) ∨ ∀ H', SqT K H' p vs) → SqT K H p vs := fun h => h.elim (fun z => .of z.2) fun z => z _
  refine ⟨?_, ?_, ?_, ?_, ?_⟩
  · rintro O H H' s ⟨h2, h3⟩
    exact ⟨h2.imp (fun z => ⟨z.1, s _ _ z.2 z.1⟩) id, h3.step s⟩
  · rintro O O' H s ⟨h2, h3⟩
    exact ⟨h2.imp (fun z => ⟨fun q => (s _ q).elim z.1 fun n => (by rw [z.2] at n; cases n), z.2⟩) id, h3.more s⟩
  · rintro i O H ⟨h2, h3⟩ hi
    have hv : i < vs.length := by rw [h3.length]; exact hi
    exact ⟨vs, vs[i], sq h2, by simp [hv]⟩
  · rintro i O H ⟨h2, h3⟩ hi
    exact ⟨vs, sq h2, by rw [h3.length]; exact hi⟩
  · rintro i O H x H' ⟨h2, h3⟩ _ hi y
    obtain ⟨e, y⟩ := y
    subst e
    obtain ⟨d, ed, hd⟩ := h3.getV (y vs (sq h2))
    exact ⟨Out.refl, d, ed, hd⟩
def iSeq (K : Fr) (tl : TE) : TI := fun σ H R => tl σ H fun x H1 => ∃ p, x = .ref p ∧ (((∃ xs, SqL K H1 p xs) ∧ R (Itl K p) H1) ∨ ((∃ xs, SqT K H1 p xs) ∧ R (Itt K p) H1))
theorem pi_seq {tg l : Expr} {tl : TE} (hl : PE X l tl) : PI X tg l (iSeq X.K tl) := by
  refine ⟨fun pins s σ H R I h => ?_⟩
  refine wpAny_mono (hl.run pins s σ H _ I h) (fun v s1 ⟨x, H1, I1, r1, p, ex, q⟩ => ?_) fun _ _ z => z
  subst ex
  obtain rfl : v = Value.ref p := r1
  have kp : ∀ o, ∀ b ob, s1.heap.get? b = some ob → (s1.heap.push o).get? b = some ob := fun o b ob e => Heap.get?_push_of_some _ e
  have mem : ∀ b ∈ [s1.heap.objs.size], FpOk X pins H1 b := fun b hb => by
    have e : b = s1.heap.objs.size := by simpa using hb
    rw [e]
    exact I1.fpOk (Nat.le_refl _) (I1.hok.fresh (Nat.le_refl _))
  rcases q with ⟨⟨xs, hq⟩, q⟩ | ⟨⟨xs, hq⟩, q⟩
  · obtain ⟨its, rv, pl, hz⟩ := I1.list hq
    exact wpAny_pyIter_list pl.isList ⟨_, [s1.heap.objs.size], _, _, H1, rfl, I1.kept (t' := s1.toks) (kp _), turn_list p _, ⟨_, Heap.get?_push_size _ rfl, rfl, rfl⟩, mem, q⟩
  · obtain ⟨its, rv, pl, hz⟩ := I1.tuple hq
    exact wpAny_pyIter_tuple (show s1.heap.IsTuple p its.toArray from pl) ⟨_, [s1.heap.objs.size], _, _, H1, rfl, I1.kept (t' := s1.toks) (kp _), turn_tuple p _, ⟨_, Heap.get?_push_size _ rfl, rfl, rfl⟩, mem, q⟩
def seqD : D → Option (List D)
  | .lst xs => some xs
  | .tup xs => some xs
  | _ => none
/-- a list, a tuple -/
def iVal (f : Sls → M D) : Sls → M (List D) := fun ρ => f ρ >>= fun x => ofOpt (seqD x)
theorem di_val {tg : Expr} (h : DE X W ea e f) : DI X W ea tg e (iVal f) := by
  refine pi_weak (pi_seq h) fun σ H Q h => ?_
  refine tG_bind h fun bx O ω ρ x d1 H1 he hg hx hr => ?_
  obtain ⟨d, eo, hr2⟩ := retG_opt hr
  cases d1 with
  | lst ds =>
    cases eo
    obtain ⟨p, vs, rfl, h1, h2, h3⟩ := den_lst hx
    exact ⟨p, rfl, .inl ⟨⟨vs, .of h2⟩, tG_pure hr2 hg ⟨_, itd_list, ⟨h1, h2⟩, h3⟩⟩⟩
  | tup ds =>
    cases eo
    cases hx with
    | tup h1 h2 h3 => exact ⟨_, rfl, .inr ⟨⟨_, .of h2⟩, tG_pure hr2 hg ⟨_, itd_tup, .inl ⟨h1, h2⟩, h3⟩⟩⟩
    | ktup h2 h3 => exact ⟨_, rfl, .inr ⟨⟨_, h2 _⟩, tG_pure hr2 hg ⟨_, itd_tup, .inr h2, h3⟩⟩⟩
  | _ => cases eo
/-- ranges -/
def rgL (lo c : Int) (n : Nat) : List D := (List.range n).map fun i => .int (lo + (i : Nat) * c)
theorem rgL_length (lo c : Int) (n : Nat) : (rgL lo c n).length = n := by unfold rgL; simp
theorem rgL_get {lo c : Int} {n i : Nat} (h : i < n) : (rgL lo c n)[i]? = some (.int (lo + (i : Nat) * c)) := by
  unfold rgL
  rw [List.getElem?_map, List.getElem?_range h]
  rfl
theorem itd_rg {K : Fr} {mg : Mg} {bx : Option Addr} {lo c : Int} {n : Nat} : Itd K mg bx (Itc lo c n) (rgL lo c n) (fun _ _ => True) where
  step := fun _ _ _ _ _ => trivial
  more := fun _ _ _ _ _ => trivial
  go := fun i O H _ hi => by rw [rgL_length] at hi; exact hi
  stop := fun i O H _ hi => by rw [rgL_length] at hi; exact hi
  yld := fun i O H x H' _ _ hi y => by
    rw [rgL_length] at hi
    obtain ⟨e, e2⟩ := y
    subst e e2
    exact ⟨Out.refl, _, rgL_get hi, .int _⟩
theorem itd_rg1 {K : Fr} {mg : Mg} {bx : Option Addr} {lo : Int} {n : Nat} : Itd K mg bx (Itr lo n) (rgL lo 1 n) (fun _ _ => True) where
  step := fun _ _ _ _ _ => trivial
  more := fun _ _ _ _ _ => trivial
  go := fun i O H _ hi => by rw [rgL_length] at hi; exact hi
  stop := fun i O H _ hi => by rw [rgL_length] at hi; exact hi
  yld := fun i O H x H' _ _ hi y => by
    rw [rgL_length] at hi
    obtain ⟨e, e2⟩ := y
    subst e e2
    refine ⟨Out.refl, _, rgL_get hi, ?_⟩
    rw [Int.mul_one]
    exact .int _
def rg62 (i : Int) : Bool := decide (-(2 ^ 62) ≤ i ∧ i < 2 ^ 62)
def rngO : List D → Option (List D)
  | [.int j] => if rg62 j then some (rgL 0 1 j.toNat) else none
  | [.int i, .int j] => if rg62 i && rg62 j then some (rgL i 1 (j - i).toNat) else none
  | [.int i, .int j, .int c] => if c ≠ 0 ∧ c.natAbs < 1073741824 ∧ Builtin.Range.small i j c = true ∧ 0 ≤ Builtin.Range.rangeSize i j c then some (rgL i c (Builtin.Range.rangeSize i j c).toNat) else none
  | _ => none
def iRng (r : Sls → M (List D)) : Sls → M (List D) := fun ρ => r ρ >>= fun xs => ofOpt (rngO xs)
theorem di_rng1 {tg : Expr} {r : Sls → M (List D)} {p : Pos} (hg : Gl X "range") (hm : X.mg "range" = none) (ha : DA X W ea [a] r) (hs : starEach [a] X.env = [(false, eval a X.env)] := by rfl) : DI X W ea tg (.Call (.Name "range" p) [a] [] pos) (fun ρ => r ρ >>= fun xs => ofOpt (match xs with | [x] => rngO [x] | _ => none)) := by
  refine pi_weak (pi_range1 hg hm ha hs) fun σ H Q h => ?_
  refine tG_bind h fun bx O ω ρ x d1 H1 he hg hx hr => ?_
  obtain ⟨d, eo, hr2⟩ := retG_opt hr
  split at eo
  · obtain ⟨v, rfl, hv⟩ := den1 hx
    rename_i x
    cases x with
    | int j =>
      cases hv
      obtain ⟨hj, rfl⟩ := ite_some eo
      have hj2 := of_decide_eq_true hj
      exact ⟨j, rfl, hj2.1, hj2.2, tG_pure hr2 hg ⟨_, itd_rg1, trivial⟩⟩
    | _ => cases eo
  · cases eo
theorem di_rng2 {tg : Expr} {r : Sls → M (List D)} {p : Pos} (hg : Gl X "range") (hm : X.mg "range" = none) (ha : DA X W ea [a, b] r) (hs : starEach [a, b] X.env = [(false, eval a X.env), (false, eval b X.env)] := by rfl) (hs2 : starEach [b] X.env = [(false, eval b X.env)] := by rfl) :
    DI X W ea tg (.Call (.Name "range" p) [a, b] [] pos) (fun ρ => r ρ >>= fun xs => ofOpt (match xs with | [x, y] => rngO [x, y] | _ => none)) := by
  refine pi_weak (pi_range2 hg hm ha hs hs2) fun σ H Q h => ?_
  refine tG_bind h fun bx O ω ρ x d1 H1 he hg hx hr => ?_
  obtain ⟨d, eo, hr2⟩ := retG_opt hr
  split at eo
  · obtain ⟨v, v', rfl, hv, hv'⟩ := den2 hx
    rename_i x y
    cases x with
    | int i =>
      cases y with
      | int j =>
        cases hv; cases hv'
        obtain ⟨hj, rfl⟩ := ite_some eo
        have hj1 := Bool.and_eq_true_iff.mp hj
        have h1 := of_decide_eq_true hj1.1
        have h2 := of_decide_eq_true hj1.2
        exact ⟨i, j, rfl, ⟨h1.1, h1.2, h2.1, h2.2⟩, tG_pure hr2 hg ⟨_, itd_rg1, trivial⟩⟩
      | _ => cases eo
    | _ => cases eo
  · cases eo
theorem di_rng3 {tg : Expr} {r : Sls → M (List D)} {p : Pos} (hg : Gl X "range") (hm : X.mg "range" = none) (ha : DA X W ea [a, b, c] r)
    (hs : starEach [a, b, c] X.env = (false, eval a X.env) :: starEach [b, c] X.env := by rfl) (hpl : (backTo pos (starEach [b, c] X.env)).any (·.1) = false := by rfl) :
    DI X W ea tg (.Call (.Name "range" p) [a, b, c] [] pos) (fun ρ => r ρ >>= fun xs => ofOpt (match xs with | [x, y, z] => rngO [x, y, z] | _ => none)) := by
  refine pi_weak (pi_range3 hg hm ha hs hpl) fun σ H Q h => ?_
  refine tG_bind h fun bx O ω ρ x d1 H1 he hg hx hr => ?_
  obtain ⟨d, eo, hr2⟩ := retG_opt hr
  split at eo
  · rename_i x y z
    cases hx with
    | cons hx hx1 =>
      cases hx1 with
      | cons hy hx2 =>
        cases hx2 with
        | cons hz hx3 =>
          cases hx3
          cases x with
          | int i =>
            cases y with
            | int j =>
              cases z with
              | int c =>
                cases hx; cases hy; cases hz
                obtain ⟨⟨h1, h2, h3, h4⟩, rfl⟩ := ite_some eo
                exact ⟨i, j, c, _, rfl, ⟨h1, h2, h3, by omega⟩, tG_pure hr2 hg ⟨_, itd_rg, trivial⟩⟩
              | _ => cases eo
            | _ => cases eo
          | _ => cases eo
  · cases eo
end
end DL
end

section
set_option Elab.async false
set_option linter.all false
set_option maxRecDepth 100000
set_option maxHeartbeats 2000000
set_option autoImplicit false
/-! DL7: enumerate, zip; targets; comprehensions. -/
namespace DL
open PySem PySem.Spec PyProof.Rows L2

section
variable {X : Cx} {W : WX} {ea : Option (Addr × Addr)} {a b c e o : Expr} {es : List Expr} {f g k : Sls → M D} {pos : Pos}

def enumL : Nat → List D → List D
  | _, [] => []
  | i, x :: xs => .tup [.int (i : Nat), x] :: enumL (i + 1) xs
theorem enumL_length : ∀ (i : Nat) (xs : List D), (enumL i xs).length = xs.length
  | _, [] => rfl
  | i, x :: xs => by simp [enumL, enumL_length (i + 1) xs]
theorem enumL_get : ∀ (j : Nat) (xs : List D) (i : Nat) (d : D), xs[i]? = some d → (enumL j xs)[i]? = some (.tup [.int ((j + i : Nat) : Int), d])
  | _, [], i, _, h => by simp at h
  | j, x :: xs, 0, d, h => by simp at h; subst h; rfl
  | j, x :: xs, i + 1, d, h => by
    have := enumL_get (j + 1) xs i d (by simpa using h)
    simp only [enumL, List.getElem?_cons_succ]
    rw [this]
    have e : j + 1 + i = j + (i + 1) := by omega
    rw [e]
theorem itd_enum {K : Fr} {mg : Mg} {bx : Option Addr} {p : Addr} {vs : List V} {ds : List D} : Itd K mg bx (Ite K p) (enumL 0 ds) (fun O H => (p ∉ O ∧ H p = some (.lst vs)) ∧ DenL K mg bx O H vs ds) where
  step := fun O H H' s ⟨⟨h1, h2⟩, h3⟩ => ⟨⟨h1, s _ _ h2 h1⟩, h3.step s⟩
  more := fun O O' H s ⟨⟨h1, h2⟩, h3⟩ => ⟨⟨fun z => (s _ z).elim h1 fun n => (by rw [h2] at n; cases n), h2⟩, h3.more s⟩
  go := fun i O H ⟨⟨h1, h2⟩, h3⟩ hi => by
    rw [enumL_length] at hi
    have hv : i < vs.length := by rw [h3.length]; exact hi
    exact ⟨vs, vs[i], .of h2, by simp [hv]⟩
  stop := fun i O H ⟨⟨h1, h2⟩, h3⟩ hi => ⟨vs, .of h2, by rw [enumL_length] at hi; rw [h3.length]; exact hi⟩
  yld := fun i O H x H' ⟨⟨h1, h2⟩, h3⟩ nt hi y => by
    obtain ⟨T, z, e1, e2, e3, e4⟩ := y
    subst e1 e3
    obtain ⟨d, ed, hd⟩ := h3.getV (e4 vs (.of h2))
    refine ⟨Out.new e2, _, enumL_get 0 ds i d ed, ?_⟩
    rw [Nat.zero_add]
    exact den_newT nt e2 (.cons (.int _) (.cons hd .nil))
/-- enumerate(a list) -/
def iEnu (f : Sls → M D) : Sls → M (List D) := fun ρ => f ρ >>= fun x => ofOpt (match x with | .lst xs => some (enumL 0 xs) | _ => none)
theorem di_enum {elts : List Expr} {kk : Nat} {tpos p : Pos} (hg : Gl X "enumerate") (hm : X.mg "enumerate" = none) (ha : DE X W ea e f) (hs : starEach [e] X.env = [(false, eval e X.env)] := by rfl) : DI X W ea (.Tuple elts kk tpos) (.Call (.Name "enumerate" p) [e] [] pos) (iEnu f) := by
  refine pi_weak (pi_enum hg hm (pa_cons ha pa_nil (by rw [hs]; rfl)) hs) fun σ H Q h => ?_
  refine tG_bind h fun bx O ω ρ x d1 H1 he hg hx hr => ?_
  obtain ⟨d, eo, hr2⟩ := retG_opt hr
  cases d1 with
  | lst ds =>
    cases eo
    obtain ⟨q, vs, rfl, h1, h2, h3⟩ := den_lst hx
    exact ⟨q, vs, rfl, .of h2, tG_pure hr2 hg ⟨_, itd_enum, ⟨h1, h2⟩, h3⟩⟩
  | _ => cases eo
def zipL : List D → List D → List D
  | x :: xs, y :: ys => .tup [x, y] :: zipL xs ys
  | _, _ => []
theorem zipL_length : ∀ xs ys : List D, (zipL xs ys).length = min xs.length ys.length
  | [], _ => by simp [zipL]
  | _ :: _, [] => by simp [zipL]
  | x :: xs, y :: ys => by simp [zipL, zipL_length xs ys]
theorem zipL_get : ∀ {xs ys : List D} {i : Nat} {x y : D}, xs[i]? = some x → ys[i]? = some y → (zipL xs ys)[i]? = some (.tup [x, y])
  | [], _, i, _, _, h, _ => by simp at h
  | _ :: _, [], i, _, _, _, h => by simp at h
  | x :: xs, y :: ys, 0, _, _, h1, h2 => by simp at h1 h2; subst h1 h2; rfl
  | x :: xs, y :: ys, i + 1, _, _, h1, h2 => by
    simp only [zipL, List.getElem?_cons_succ]
    exact zipL_get (by simpa using h1) (by simpa using h2)
/-- how a list or a tuple stands -/
def SqP (K : Fr) (q : Bool) (p : Addr) (vs : List V) (O : List Addr) (H : Hp) : Prop := if q then (p ∉ O ∧ H p = some (.lst vs)) else ((p ∉ O ∧ H p = some (.tup vs)) ∨ ∀ H', SqT K H' p vs)
theorem SqP.step {K : Fr} {q : Bool} {p : Addr} {vs : List V} {O : List Addr} {H H' : Hp} (s : Out O H H') (h : SqP K q p vs O H) : SqP K q p vs O H' := by
  cases q with
  | true => exact ⟨h.1, s _ _ h.2 h.1⟩
  | false => exact Or.imp (fun z : p ∉ O ∧ H p = some (.tup vs) => ⟨z.1, s _ _ z.2 z.1⟩) (fun z => z) h
theorem SqP.more {K : Fr} {q : Bool} {p : Addr} {vs : List V} {O O' : List Addr} {H : Hp} (s : ∀ a ∈ O', a ∈ O ∨ H a = none) (h : SqP K q p vs O H) : SqP K q p vs O' H := by
  cases q with
  | true => exact ⟨fun z => (s _ z).elim h.1 fun n => (by rw [h.2] at n; cases n), h.2⟩
  | false => exact Or.imp (fun z : p ∉ O ∧ H p = some (.tup vs) => ⟨fun y => (s _ y).elim z.1 fun n => (by rw [z.2] at n; cases n), z.2⟩) (fun z => z) h
theorem SqP.l {K : Fr} {p : Addr} {vs : List V} {O : List Addr} {H : Hp} (h : SqP K true p vs O H) : SqL K H p vs := .of h.2
theorem SqP.t {K : Fr} {p : Addr} {vs : List V} {O : List Addr} {H : Hp} (h : SqP K false p vs O H) : SqT K H p vs := Or.elim h (fun z => .of z.2) fun z => z _
theorem itd_zip {K : Fr} {mg : Mg} {bx : Option Addr} {q : Bool} {p p' : Addr} {vs vs' : List V} {ds ds' : List D} : Itd K mg bx (if q then Itz K p p' else RZ.ItzT K p p') (zipL ds ds') (fun O H => (SqP K q p vs O H ∧ SqP K q p' vs' O H) ∧ DenL K mg bx O H vs ds ∧ DenL K mg bx O H vs' ds') where
  step := fun O H H' s ⟨⟨h1, h2⟩, h3, h4⟩ => ⟨⟨h1.step s, h2.step s⟩, h3.step s, h4.step s⟩
  more := fun O O' H s ⟨⟨h1, h2⟩, h3, h4⟩ => ⟨⟨h1.more s, h2.more s⟩, h3.more s, h4.more s⟩
  go := fun i O H ⟨⟨h1, h2⟩, h3, h4⟩ hi => by
    rw [zipL_length] at hi
    have hv : i < vs.length := by rw [h3.length]; omega
    have hv' : i < vs'.length := by rw [h4.length]; omega
    cases q with
    | true => exact ⟨vs, vs', vs[i], vs'[i], h1.l, h2.l, by simp [hv], by simp [hv']⟩
    | false => exact ⟨vs, vs', vs[i], vs'[i], h1.t, h2.t, by simp [hv], by simp [hv']⟩
  stop := fun i O H ⟨⟨h1, h2⟩, h3, h4⟩ hi => by
    rw [zipL_length] at hi
    have hv : vs.length ≤ i ∨ vs'.length ≤ i := by rw [h3.length, h4.length]; omega
    cases q with
    | true => exact ⟨vs, vs', h1.l, h2.l, hv⟩
    | false => exact ⟨vs, vs', h1.t, h2.t, hv⟩
  yld := fun i O H x H' ⟨⟨h1, h2⟩, h3, h4⟩ nt hi y => by
    have y2 : ∃ T x1 y1, x = .ref T ∧ H T = none ∧ H' = upd H T (.tup [x1, y1]) ∧ vs[i]? = some x1 ∧ vs'[i]? = some y1 := by
      cases q with
      | true => obtain ⟨T, x1, y1, e1, e2, e3, e4, e5⟩ := y; exact ⟨T, x1, y1, e1, e2, e3, e4 _ h1.l, e5 _ h2.l⟩
      | false => obtain ⟨T, x1, y1, e1, e2, e3, e4, e5⟩ := y; exact ⟨T, x1, y1, e1, e2, e3, e4 _ h1.t, e5 _ h2.t⟩
    obtain ⟨T, x1, y1, e1, e2, e3, e4, e5⟩ := y2
    subst e1 e3
    obtain ⟨d, ed, hd⟩ := h3.getV e4
    obtain ⟨d', ed', hd'⟩ := h4.getV e5
    exact ⟨Out.new e2, _, zipL_get ed ed', den_newT nt e2 (.cons hd (.cons hd' .nil))⟩
def zipO : List D → Option (List D)
  | [.lst xs, .lst ys] => some (zipL xs ys)
  | [.tup xs, .tup ys] => some (zipL xs ys)
  | _ => none
def iZip2 (r : Sls → M (List D)) : Sls → M (List D) := fun ρ => r ρ >>= fun xs => ofOpt (zipO xs)
theorem sqp_tup {K : Fr} {mg : Mg} {bx : Option Addr} {O : List Addr} {H : Hp} {v : V} {ds : List D} (h : Den K mg bx O H v (.tup ds)) : ∃ p vs, v = .ref p ∧ SqP K false p vs O H ∧ DenL K mg bx O H vs ds := by
  cases h with
  | tup h1 h2 h3 => exact ⟨_, _, rfl, .inl ⟨h1, h2⟩, h3⟩
  | ktup h2 h3 => exact ⟨_, _, rfl, .inr h2, h3⟩
theorem di_zip {elts : List Expr} {kk : Nat} {tpos p : Pos} {r : Sls → M (List D)} (hg : Gl X "zip") (hm : X.mg "zip" = none) (ha : DA X W ea [a, b] r) (hs : starEach [a, b] X.env = (false, eval a X.env) :: starEach [b] X.env := by rfl) (hpl : (backTo pos (starEach [b] X.env)).any (·.1) = false := by rfl) :
    DI X W ea (.Tuple elts kk tpos) (.Call (.Name "zip" p) [a, b] [] pos) (iZip2 r) := by
  refine pi_weak (RZ.pi_zipA hg hm ha hs hpl) fun σ H Q h => ?_
  refine tG_bind h fun bx O ω ρ x d1 H1 he hg hx hr => ?_
  obtain ⟨d, eo, hr2⟩ := retG_opt hr
  unfold zipO at eo
  split at eo
  · cases eo
    obtain ⟨v, v', rfl, hv, hv'⟩ := den2 hx
    obtain ⟨q, vs, rfl, h1, h2, h3⟩ := den_lst hv
    obtain ⟨q', vs', rfl, h1', h2', h3'⟩ := den_lst hv'
    exact ⟨q, q', vs, vs', rfl, .inl ⟨.of h2, .of h2', tG_pure hr2 hg ⟨_, itd_zip (q := true), ⟨⟨h1, h2⟩, h1', h2'⟩, h3, h3'⟩⟩⟩
  · cases eo
    obtain ⟨v, v', rfl, hv, hv'⟩ := den2 hx
    obtain ⟨q, vs, rfl, h1, h3⟩ := sqp_tup hv
    obtain ⟨q', vs', rfl, h1', h3'⟩ := sqp_tup hv'
    exact ⟨q, q', vs, vs', rfl, .inr ⟨h1.t, h1'.t, tG_pure hr2 hg ⟨_, itd_zip (q := false), ⟨h1, h1'⟩, h3, h3'⟩⟩⟩
  · cases eo

/-! ### targets -/
/-- slots are given, one after the other -/
def setsV : L2.St → List (Nat × V) → L2.St
  | σ, [] => σ
  | σ, (i, v) :: r => setsV (σ.set i (some v)) r
def setsS : Sls → List (Nat × D) → Option Sls
  | ρ, [] => some ρ
  | ρ, (i, d) :: r => if i < ρ.length then setsS (ρ.set i (.val d)) r else none
abbrev PairN (K : Fr) (mg : Mg) (bx : Option Addr) (O : List Addr) (H : Hp) : List (Nat × V) → List (Nat × D) → Prop := Paired fun (p : Nat × V) (q : Nat × D) => p.1 = q.1 ∧ Den K mg bx O H p.2 q.2
def DG (X : Cx) (ts : List Nat) (e : Expr) (bd : D → Option (List (Nat × D))) : Prop := (∀ d as, bd d = some as → ∀ p ∈ as, p.1 ∈ ts) ∧ ∃ g : TG, PG X e g ∧ ∀ (bx : Option Addr) (O : List Addr) (H : Hp) (v : V) (d : D) (σ : L2.St) (as : List (Nat × D)) (Q : L2.St → Hp → Prop), Den X.K X.mg bx O H v d → bd d = some as →
  (∀ avs, PairN X.K X.mg bx O H avs as → Q (setsV σ avs) H) → g v σ H Q
def tgN (i : Nat) : D → Option (List (Nat × D)) := fun d => some [(i, d)]
theorem EnvOk.set {K : Fr} {mg : Mg} {bx : Option Addr} {ea : Option (Addr × Addr)} {O : List Addr} {H : Hp} {σ : L2.St} {ρ : Sls} {i : Nat} {v : V} {d : D} (e : EnvOk K mg bx ea O H σ ρ) (h : Den K mg bx O H v d) (hi : i < ρ.length) : EnvOk K mg bx ea O H (σ.set i (some v)) (ρ.set i (.val d)) := by
  have hs : i < σ.length := by rw [e.len]; exact hi
  refine ⟨by rw [List.length_set, List.length_set, e.len], fun j s d' h1 h2 => ?_, fun j fs h1 => ?_⟩
  · by_cases z : i = j
    · subst z
      rw [List.getElem?_set_self hi] at h1
      cases h1
      cases h2
      exact ⟨v, by rw [List.getElem?_set_self hs], h⟩
    · rw [List.getElem?_set_ne z] at h1
      rw [List.getElem?_set_ne z]
      exact e.val j s d' h1 h2
  · by_cases z : i = j
    · subst z
      rw [List.getElem?_set_self hi] at h1
      cases h1
    · rw [List.getElem?_set_ne z] at h1
      rw [List.getElem?_set_ne z]
      exact e.exn j fs h1
theorem EnvOk.sets {K : Fr} {mg : Mg} {bx : Option Addr} {ea : Option (Addr × Addr)} {O : List Addr} {H : Hp} : ∀ {as : List (Nat × D)} {avs : List (Nat × V)} {σ : L2.St} {ρ ρ' : Sls}, EnvOk K mg bx ea O H σ ρ → PairN K mg bx O H avs as → setsS ρ as = some ρ' → EnvOk K mg bx ea O H (setsV σ avs) ρ'
  | [], _, σ, ρ, ρ', e, .nil, h => by cases h; exact e
  | (i, d) :: r, (j, v) :: rv, σ, ρ, ρ', e, .cons h1 h2, h => by
    obtain ⟨rfl, hd⟩ := h1
    have h' : (if j < ρ.length then setsS (ρ.set j (.val d)) r else none) = some ρ' := h
    by_cases hl : j < ρ.length
    · rw [if_pos hl] at h'
      exact EnvOk.sets (as := r) (avs := rv) (σ := σ.set j (some v)) (e.set hd hl) h2 h'
    · rw [if_neg hl] at h'; cases h'
theorem dg_name {i : Nat} {x : Str} (hN : X.N.Nodup) (hi : X.N[i]? = some x) (hx : Loc X.env.scope x) (hf : X.fn x = true ∨ X.env.scope.names.lookup x = some .local := by first | exact .inl rfl | exact .inr rfl) : DG X [i] (.Name x pos) (tgN i) :=
  ⟨fun d as e p hp => by cases e; simpa using congrArg Prod.fst (List.mem_singleton.mp hp), gName i, pg_name hN hi hx hf, fun bx O H v d σ as Q hv eg k => by
    cases eg
    exact k [(i, v)] (.cons ⟨rfl, hv⟩ .nil)⟩
/-- several names -/
def DGs (X : Cx) (ts : List Nat) (es : List Expr) (bd : List D → Option (List (Nat × D))) : Prop := (∀ d as, bd d = some as → ∀ p ∈ as, p.1 ∈ ts) ∧ ∃ g : TGs, PGs X es g ∧ ∀ (bx : Option Addr) (O : List Addr) (H : Hp) (v : List V) (d : List D) (σ : L2.St) (as : List (Nat × D)) (Q : L2.St → Hp → Prop), DenL X.K X.mg bx O H v d → bd d = some as →
  (∀ avs, PairN X.K X.mg bx O H avs as → Q (setsV σ avs) H) → g v σ H Q
def tgsNil : List D → Option (List (Nat × D))
  | [] => some []
  | _ => none
def tgsCons (g : D → Option (List (Nat × D))) (r : List D → Option (List (Nat × D))) : List D → Option (List (Nat × D))
  | d :: ds => (g d).bind fun as => (r ds).map fun bs => as ++ bs
  | _ => none
theorem dgs_nil : DGs X [] [] tgsNil := ⟨fun d as e p hp => (by cases d <;> cases e; cases hp), gNil, pgs_nil, fun bx O H v d σ as Q hv eg k => by
  cases d with
  | nil => cases hv; cases eg; exact ⟨rfl, k [] .nil⟩
  | cons _ _ => cases eg⟩
theorem setsV_append : ∀ (as bs : List (Nat × V)) (σ : L2.St), setsV σ (as ++ bs) = setsV (setsV σ as) bs
  | [], _, _ => rfl
  | (i, v) :: r, bs, σ => setsV_append r bs (σ.set i (some v))
theorem pairN_append {K : Fr} {mg : Mg} {bx : Option Addr} {O : List Addr} {H : Hp} : ∀ {as : List (Nat × V)} {bs : List (Nat × D)} {cs : List (Nat × V)} {ds : List (Nat × D)}, PairN K mg bx O H as bs → PairN K mg bx O H cs ds → PairN K mg bx O H (as ++ cs) (bs ++ ds)
  | _, _, _, _, .nil, s => s
  | _, _, _, _, .cons h t, s => .cons h (pairN_append t s)
theorem dgs_cons {ts us : List Nat} {g1 : D → Option (List (Nat × D))} {g2 : List D → Option (List (Nat × D))} (h1 : DG X ts e g1) (h2 : DGs X us es g2) (hs : (assignEach (e :: es) X.env).map (·.2) = assign e X.env :: (assignEach es X.env).map (·.2) := by rfl) :
    DGs X (ts ++ us) (e :: es) (tgsCons g1 g2) := by
  obtain ⟨m1, g, p1, k1⟩ := h1
  obtain ⟨m2, g', p2, k2⟩ := h2
  refine ⟨fun d as ea p hp => ?_, gCons g g', pgs_cons p1 p2 hs, fun bx O H v d σ as Q hv eg k => ?_⟩
  · cases d with
    | nil => cases ea
    | cons d ds =>
      obtain ⟨a1, e1, e2⟩ := Option.bind_eq_some_iff.mp ea
      obtain ⟨a2, e3, rfl⟩ := Option.map_eq_some_iff.mp e2
      rcases List.mem_append.mp hp with z | z
      · exact List.mem_append_left _ (m1 d a1 e1 p z)
      · exact List.mem_append_right _ (m2 ds a2 e3 p z)
  · cases hv with
    | nil => cases eg
    | cons hv hr =>
      obtain ⟨a1, e1, e2⟩ := Option.bind_eq_some_iff.mp eg
      obtain ⟨a2, e3, rfl⟩ := Option.map_eq_some_iff.mp e2
      refine ⟨_, _, rfl, k1 bx O H _ _ σ a1 _ hv e1 fun v1 r1 => ?_⟩
      exact k2 bx O H _ _ _ a2 _ hr e3 fun v2 r2 => by
        have z := k (v1 ++ v2) (pairN_append r1 r2)
        rw [setsV_append] at z
        exact z
/-- (a, b, ..) -/
def tgT (n : Nat) (g : List D → Option (List (Nat × D))) : D → Option (List (Nat × D))
  | .tup ds => if ds.length = n then g ds else none
  | _ => none
theorem dg_tup {ts : List Nat} {g1 : List D → Option (List (Nat × D))} {kk n : Nat} (hc : X.calm = true) (h : DGs X ts es g1) (hn : (assignEach es X.env).length = n := by rfl) (hst : (assignEach es X.env).findIdx? (·.1) = none := by rfl) : DG X ts (.Tuple es kk pos) (tgT n g1) := by
  obtain ⟨m, g, p, k1⟩ := h
  have un : ∀ {ds : List D} {as : List (Nat × D)}, tgT n g1 (.tup ds) = some as → ds.length = n ∧ g1 ds = some as := fun {ds as} eg => by
    have eg2 : (if ds.length = n then g1 ds else none) = some as := eg
    by_cases hl : ds.length = n
    · rw [if_pos hl] at eg2; exact ⟨hl, eg2⟩
    · rw [if_neg hl] at eg2; cases eg2
  refine ⟨fun d as ea q hq => ?_, gTup X.K n g, pg_tup hc p hn hst, fun bx O H v d σ as Q hv eg k => ?_⟩
  · cases d with
    | tup ds => exact m ds as (un ea).2 q hq
    | _ => cases ea
  · cases d with
    | tup ds =>
      obtain ⟨hl, eg2⟩ := un eg
      obtain ⟨q, vs, rfl, hq, hr⟩ := den_tup hv
      exact ⟨q, vs, rfl, hq, by rw [hr.length]; exact hl, k1 bx O H vs ds σ as Q hr eg2 k⟩
    | _ => cases eg
/-- the slots ts are given; others stay -/
def SetOk (ts : List Nat) (σ σ' : L2.St) : Prop := σ'.length = σ.length ∧ ∀ i, i ∉ ts → σ'[i]? = σ[i]?
theorem setsV_ok {ts : List Nat} : ∀ {as : List (Nat × V)} {σ : L2.St}, (∀ p ∈ as, p.1 ∈ ts) → SetOk ts σ (setsV σ as)
  | [], _, _ => ⟨rfl, fun _ _ => rfl⟩
  | (i, v) :: r, σ, h => by
    have z := setsV_ok (σ := σ.set i (some v)) (as := r) fun p hp => h p (List.mem_cons_of_mem _ hp)
    refine ⟨z.1.trans List.length_set, fun j hj => (z.2 j hj).trans (List.getElem?_set_ne fun y => hj ?_)⟩
    rw [← y]
    exact h (i, v) List.mem_cons_self
theorem pairN_fst {K : Fr} {mg : Mg} {bx : Option Addr} {O : List Addr} {H : Hp} {ts : List Nat} : ∀ {as : List (Nat × V)} {bs : List (Nat × D)}, PairN K mg bx O H as bs → (∀ p ∈ bs, p.1 ∈ ts) → ∀ p ∈ as, p.1 ∈ ts
  | _, _, .nil, _, p, hp => by cases hp
  | _, _, .cons h t, m, p, hp => by
    rcases List.mem_cons.mp hp with z | z
    · rw [z, h.1]; exact m _ List.mem_cons_self
    · exact pairN_fst t (fun q hq => m q (List.mem_cons_of_mem _ hq)) p z

/-! ### [e for t in it if c] -/
def M.nox {α : Type} (m : M α) : M α := ⟨fun ω => match m.run ω with
  | .ok a ω' => .ok a ω'
  | _ => .bad⟩
@[simp] theorem nox_pure {α : Type} (a : α) : M.nox (pure a : M α) = pure a := rfl
@[simp] theorem nox_bad {α : Type} : M.nox (M.bad : M α) = M.bad := rfl
theorem nox_bind {α β : Type} (m : M α) (f : α → M β) : M.nox (m >>= f) = M.nox m >>= fun a => M.nox (f a) := by
  refine M.ext fun ω => ?_
  unfold M.nox
  simp only [M.bind_run]
  cases m.run ω <;> rfl
def wipeS (ρ : Sls) : List Nat → Sls
  | [] => ρ
  | v :: vs => (wipeS ρ vs).set v .no
theorem wipeS_length (ρ : Sls) : ∀ vs : List Nat, (wipeS ρ vs).length = ρ.length
  | [] => rfl
  | v :: vs => by unfold wipeS; rw [List.length_set, wipeS_length ρ vs]
theorem EnvOk.no {K : Fr} {mg : Mg} {bx : Option Addr} {ea : Option (Addr × Addr)} {O : List Addr} {H : Hp} {σ : L2.St} {ρ : Sls} {i : Nat} (e : EnvOk K mg bx ea O H σ ρ) : EnvOk K mg bx ea O H (σ.set i none) (ρ.set i .no) := by
  have key : ∀ (j : Nat) (s : Sl), (ρ.set i .no)[j]? = some s → s = .no ∨ (i ≠ j ∧ ρ[j]? = some s) := fun j s h1 => by
    by_cases z : i = j
    · subst z
      by_cases hi : i < ρ.length
      · rw [List.getElem?_set_self hi] at h1
        cases h1
        exact .inl rfl
      · rw [List.getElem?_eq_none (by simpa using hi)] at h1
        cases h1
    · rw [List.getElem?_set_ne z] at h1
      exact .inr ⟨z, h1⟩
  refine ⟨by rw [List.length_set, List.length_set, e.len], fun j s d' h1 h2 => ?_, fun j fs h1 => ?_⟩
  · rcases key j s h1 with rfl | ⟨z, h1⟩
    · cases h2
    · rw [List.getElem?_set_ne z]
      exact e.val j s d' h1 h2
  · rcases key j _ h1 with z | ⟨z, h1⟩
    · cases z
    · rw [List.getElem?_set_ne z]
      exact e.exn j fs h1
theorem EnvOk.wipe {K : Fr} {mg : Mg} {bx : Option Addr} {ea : Option (Addr × Addr)} {O : List Addr} {H : Hp} {σ : L2.St} {ρ : Sls} (e : EnvOk K mg bx ea O H σ ρ) : ∀ vs : List Nat, EnvOk K mg bx ea O H (L2.wipe σ vs) (wipeS ρ vs)
  | [] => e
  | v :: vs => by unfold L2.wipe wipeS; exact (EnvOk.wipe e vs).no
theorem EnvOk.more {K : Fr} {mg : Mg} {bx : Option Addr} {ea : Option (Addr × Addr)} {O O' : List Addr} {H : Hp} {σ : L2.St} {ρ : Sls} (e : EnvOk K mg bx ea O H σ ρ) (s : ∀ a ∈ O', a ∈ O ∨ H a = none) : EnvOk K mg bx ea O' H σ ρ :=
  ⟨e.len, fun i sl d h1 h2 => let ⟨v, h3, h4⟩ := e.val i sl d h1 h2; ⟨v, h3, h4.more s⟩, fun i fs h1 => let ⟨a, dd, gs, h2, h3, h4, h5, h6⟩ := e.exn i fs h1
    ⟨a, dd, gs, h2, h3, fun z => (s _ z).elim h4 fun n => (by rw [h5] at n; cases n), h5, Paired.mapP h6 fun p q z => ⟨z.1, z.2.more s⟩⟩⟩
theorem wipe_same {σ σ' : L2.St} {vs : List Nat} (h : SetOk vs (L2.wipe σ vs) σ') : L2.wipe σ' vs = L2.wipe σ vs := by
  have wl : ∀ (τ : L2.St) (i : Nat), i ∈ vs → i < τ.length → (L2.wipe τ vs)[i]? = some none := by
    intro τ
    have gen : ∀ (us : List Nat) (i : Nat), i ∈ us → i < τ.length → (L2.wipe τ us)[i]? = some none := by
      intro us
      induction us with
      | nil => intro i hi; cases hi
      | cons v us ih =>
        intro i hi hl
        unfold L2.wipe
        by_cases z : v = i
        · subst z
          rw [List.getElem?_set_self (by rw [L2.wipe_length]; exact hl)]
        · rw [List.getElem?_set_ne z]
          rcases List.mem_cons.mp hi with y | y
          · exact absurd y.symm z
          · exact ih i y hl
    exact gen vs
  have wo : ∀ (τ : L2.St) (us : List Nat) (i : Nat), i ∉ us → (L2.wipe τ us)[i]? = τ[i]? := by
    intro τ us
    induction us with
    | nil => intro i _; rfl
    | cons v us ih =>
      intro i hi
      unfold L2.wipe
      rw [List.getElem?_set_ne (fun z => hi (by simp [z]))]
      exact ih i fun z => hi (List.mem_cons_of_mem _ z)
  have hl : σ'.length = σ.length := by rw [h.1, L2.wipe_length]
  refine List.ext_getElem? fun i => ?_
  by_cases hi : i ∈ vs
  · by_cases hlen : i < σ.length
    · rw [wl σ' i hi (by rw [hl]; exact hlen), wl σ i hi hlen]
    · rw [List.getElem?_eq_none (by rw [L2.wipe_length, hl]; omega), List.getElem?_eq_none (by rw [L2.wipe_length]; omega)]
  · rw [wo σ' vs i hi, h.2 i hi]
def lcGo (vs : List Nat) (g : D → Option (List (Nat × D))) (c : Sls → M Bool) (f : Sls → M D) (ρ : Sls) : List D → List D → M (List D)
  | [], acc => pure acc
  | x :: xs, acc => ofOpt ((g x).bind fun as => setsS (wipeS ρ vs) as) >>= fun ρ1 => (c ρ1).nox >>= fun b => if b then (f ρ1).nox >>= fun y => if acc.length < 16000000 then lcGo vs g c f ρ xs (acc ++ [y]) else M.bad else lcGo vs g c f ρ xs acc
abbrev W0 : WX := fun _ _ _ _ => False
theorem retG_nox {K : Fr} {mg : Mg} {bx : Option Addr} {O : List Addr} {σ σ' : L2.St} {H : Hp} {ω : Om} {α β : Type} {rel : Hp → β → α → Prop} {Q : β → Hp → Prop} {m : M α} (h : RetG K mg W bx O σ H rel Q (m.nox.run ω)) : RetG K mg W0 bx O σ' H rel Q (m.run ω) := by
  unfold M.nox at h
  dsimp only at h
  cases e : m.run ω with
  | ok a ω' => rw [e] at h; exact h
  | exc c fs ω' => rw [e] at h; exact h.elim
  | bad => rw [e] at h; exact h
theorem retG_bind {K : Fr} {mg : Mg} {bx : Option Addr} {O : List Addr} {σ : L2.St} {H : Hp} {ω : Om} {α γ β δ : Type} {rel : Hp → β → α → Prop} {rel' : Hp → δ → γ → Prop} {Q : δ → Hp → Prop} {Q1 : β → Hp → Prop} {m : M α} {q : α → M γ} (h : RetG K mg W bx O σ H rel' Q ((m >>= q).run ω))
    (k : ∀ d ω1 v H1, Stp bx [] H H1 → Good bx O H1 ω1 → rel H1 v d → RetG K mg W bx O σ H1 rel' Q ((q d).run ω1) → Q1 v H1) : RetG K mg W bx O σ H rel Q1 (m.run ω) := by
  rw [M.bind_run] at h
  cases e : m.run ω with
  | ok d ω1 => rw [e] at h; exact fun v H1 s g r => k d ω1 v H1 s g r (RetG.later h s)
  | exc c fs ω1 => rw [e] at h; exact h
  | bad => rw [e] at h; exact h
end
end DL
end

section
set_option Elab.async false
set_option linter.all false
set_option maxRecDepth 100000
set_option maxHeartbeats 2000000
set_option autoImplicit false
/-! DL8: the rule for a comprehension. -/
namespace DL
open PySem PySem.Spec PyProof.Rows L2

section
variable {X : Cx} {W : WX} {ea : Option (Addr × Addr)} {pos : Pos}
/-- the conditions of a clause -/
abbrev DTs (X : Cx) (W : WX) (ea : Option (Addr × Addr)) (es : List Expr) (c : Sls → M Bool) : Prop := PTs X es (tT X.K X.mg W ea c)
theorem pts_weak {X : Cx} {es : List Expr} {t t' : TT} (h : PTs X es t) (w : ∀ σ H Q, t' σ H Q → t σ H Q) : PTs X es t' := ⟨fun pins s σ H Q I hq => h.run pins s σ H Q I (w σ H Q hq)⟩
def cYes : Sls → M Bool := fun _ => pure true
theorem dts_nil : DTs X W ea [] cYes := pts_weak pts_nil fun σ H Q h => by
  obtain ⟨bx, O, ω, ρ, he, hg, hr⟩ := h
  exact tG_pure hr hg rfl
theorem dts_one {e : Expr} {c : Sls → M Bool} (h : DT X W ea e c) : DTs X W ea [e] c := pts_weak (pts_one h) fun σ H Q h => h

/-- where a comprehension stands -/
structure LcI (K : Fr) (mg : Mg) (W : WX) (bx : Option Addr) (ea : Option (Addr × Addr)) (O : List Addr) (σ : L2.St) (ρ : Sls) (H0 : Hp) (P : List Addr → Hp → Prop) (p : Addr) (Q : VK) (m : List D → M (List D)) (H : Hp) : Prop where
  env : EnvOk K mg bx ea (p :: O) H σ ρ
  it : P (p :: O) H
  stp : Stp bx [p] H0 H
  st : ∃ ω accV accD, Good bx (p :: O) H ω ∧ H p = some (.lst accV) ∧ DenL K mg bx (p :: O) H accV accD ∧
    RetG K mg W bx O σ H0 (relL K mg bx O) (fun vs H' => ∀ p, H' p = none → Q (.ref p) (L2.upd H' p (.lst vs))) ((m accD).run ω)
/-- a new list of such values -/
abbrev tN (K : Fr) (mg : Mg) (W : WX) (ea : Option (Addr × Addr)) (f : Sls → M (List D)) : TE := fun σ H Q => tG K mg W ea (relL K mg) f σ H fun vs H' => ∀ p, H' p = none → Q (.ref p) (upd H' p (.lst vs))
abbrev DN (X : Cx) (W : WX) (ea : Option (Addr × Addr)) (e : Expr) (f : Sls → M (List D)) : Prop := PE X e (tN X.K X.mg W ea f)
def eL (f : Sls → M (List D)) : Sls → M D := fun ρ => f ρ >>= fun xs => pure (.lst xs)
theorem de_dn {e : Expr} {f : Sls → M (List D)} (h : DN X W ea e f) : DE X W ea e (eL f) := pe_weak h fun σ H Q h => by
  refine tG_bind h fun bx O ω ρ x d1 H1 he hg hx hr => ?_
  intro p hp
  exact tG_new hr (Out.new hp) hg (den_newL hg.nt hp hx)
theorem Good.less {bx : Option Addr} {O : List Addr} {H : Hp} {ω : Om} {p : Addr} (g : Good bx (p :: O) H ω) (hb : ∀ a, bx = some a → a ∈ O) : Good bx O H ω :=
  ⟨fun a h => g.nt a (List.mem_cons_of_mem _ h), fun a e => let ⟨h, a0, n, e0, e1⟩ := g.bx a e; ⟨hb a e, a0, fun z => n (List.mem_cons_of_mem _ z), e0, e1⟩⟩
theorem Good.moreN {bx : Option Addr} {O : List Addr} {H : Hp} {ω : Om} {p : Addr} {o : HO} (g : Good bx O H ω) (hp : H p = none) (ho : ∀ vs, o ≠ .tup vs) : Good bx (p :: O) (upd H p o) ω := by
  have ne : ∀ {a : Addr} {u : HO}, H a = some u → a ≠ p := fun e => ne_of_none e hp
  refine ⟨fun a h => ?_, fun a e => ?_⟩
  · rcases List.mem_cons.mp h with z | z
    · exact ⟨o, by rw [z, upd_same], ho⟩
    · obtain ⟨u, e, n⟩ := g.nt a z
      exact ⟨u, by rw [upd_ne (ne e)]; exact e, n⟩
  · obtain ⟨h, a0, n, e0, e1⟩ := g.bx a e
    exact ⟨List.mem_cons_of_mem _ h, a0, fun z => (List.mem_cons.mp z).elim (ne e0) n, by rw [upd_ne (ne e0)]; exact e0, by rw [upd_ne (ne e1)]; exact e1⟩
/-- what stands at an own address is changed -/
theorem Good.upd {bx : Option Addr} {O : List Addr} {H : Hp} {ω : Om} {p : Addr} {o : HO} (g : Good bx O H ω) (hp : p ∈ O) (hb : bx ≠ some p) (ho : ∀ vs, o ≠ .tup vs) : Good bx O (L2.upd H p o) ω := by
  refine ⟨fun a h => ?_, fun a e => ?_⟩
  · by_cases z : a = p
    · exact ⟨o, by rw [z, upd_same], ho⟩
    · obtain ⟨u, e, n⟩ := g.nt a h
      exact ⟨u, by rw [upd_ne z]; exact e, n⟩
  · obtain ⟨h, a0, n, e0, e1⟩ := g.bx a e
    have n1 : a ≠ p := fun z => hb (by rw [e, z])
    have n2 : a0 ≠ p := fun z => n (by rw [z]; exact hp)
    exact ⟨h, a0, n, by rw [upd_ne n2]; exact e0, by rw [upd_ne n1]; exact e1⟩
theorem Out.upd {O : List Addr} {H : Hp} {p : Addr} {o : HO} (hp : p ∈ O) : Out O H (L2.upd H p o) := fun a u e n => by
  rw [upd_ne (fun z => n (by rw [z]; exact hp))]
  exact e
theorem Stp.upd {bx : Option Addr} {L : List Addr} {H : Hp} {p : Addr} {o : HO} (hp : p ∈ L) (hb : bx ≠ some p) : Stp bx L H (L2.upd H p o) := by
  refine ⟨fun a u e n => ?_, fun a u e => ?_, fun a ha a0 vs e => ?_⟩
  · rw [upd_ne (fun z => n (by rw [z]; exact List.mem_append_right _ hp))]
    exact e
  · by_cases z : a = p
    · exact ⟨o, by rw [z, upd_same]⟩
    · exact ⟨u, by rw [upd_ne z]; exact e⟩
  · exact ⟨a0, vs, by rw [upd_ne (fun z => hb (by rw [← z]; exact ha))]; exact e, .inl rfl⟩
theorem Stp.fresh {bx : Option Addr} {L : List Addr} {H H' : Hp} {p : Addr} (s : Stp bx (p :: L) H H') (hp : H p = none) : Stp bx L H H' :=
  ⟨fun a u e n => s.keep a u e fun z => n (by
    rcases List.mem_append.mp z with z | z
    · exact List.mem_append_left _ z
    · rcases List.mem_cons.mp z with z | z
      · rw [z, hp] at e; cases e
      · exact List.mem_append_right _ z), s.live, s.bxk⟩

/-- the universal reading of a target -/
def gU (K : Fr) (mg : Mg) (g : D → Option (List (Nat × D))) : TG := fun v σ H Q => ∃ bx O d as, Den K mg bx O H v d ∧ g d = some as ∧ ∀ avs, PairN K mg bx O H avs as → Q (setsV σ avs) H
theorem pg_gU {tg : Expr} {ts : List Nat} {g : D → Option (List (Nat × D))} (h : DG X ts tg g) : PG X tg (gU X.K X.mg g) := by
  obtain ⟨_, g0, p0, k0⟩ := h
  refine ⟨fun pins s' σ H' v u Q I r h => ?_⟩
  obtain ⟨bx, O, d, as, h1, h2, h3⟩ := h
  exact p0.run pins s' σ H' v u Q I r (k0 bx O H' v d σ as Q h1 h2 h3)
def eLC (it : Sls → M (List D)) (vs : List Nat) (g : D → Option (List (Nat × D))) (c : Sls → M Bool) (f : Sls → M D) : Sls → M (List D) := fun ρ => it ρ >>= fun xs => lcGo vs g c f ρ xs []
theorem upd_hide {H : Hp} {p : Addr} {o : HO} (h : H p = some o) : upd (fun b => if b = p then none else H b) p o = H := by
  funext b
  unfold L2.upd
  by_cases z : b = p
  · rw [if_pos z, z, h]
  · rw [if_neg z]
    exact if_neg z
theorem lc_read {K : Fr} {mg : Mg} {vs : List Nat} {it : Sls → M (List D)} {g : D → Option (List (Nat × D))} {c : Sls → M Bool} {f : Sls → M D} (hgm : ∀ d as, g d = some as → ∀ p ∈ as, p.1 ∈ vs) {σ : L2.St} {H : Hp} {Q : VK}
    (h : tN K mg W ea (eLC it vs g c f) σ H Q) : tLc (tI K mg W ea it) (gU K mg g) (tT K mg W0 ea c) (tE K mg W0 ea f) vs σ H Q := by
  refine tG_bind h fun bx O ω ρ J xs H1 he1 hg1 hJ hr => ?_
  obtain ⟨P, hP, hP1⟩ := hJ
  intro p hp
  have nbx : bx ≠ some p := fun z => by
    obtain ⟨h, _⟩ := hg1.bx p z
    obtain ⟨o, e, _⟩ := hg1.nt p h
    rw [hp] at e; cases e
  have more : ∀ a ∈ p :: O, a ∈ O ∨ H1 a = none := fun a z => (List.mem_cons.mp z).elim (fun y => .inr (by rw [y]; exact hp)) .inl
  have bxO : ∀ a, bx = some a → a ∈ O := fun a e => (hg1.bx a e).1
  refine ⟨fun i m H => m = xs.length - i ∧ i ≤ xs.length ∧ LcI K mg W bx ea O σ ρ H1 P p Q (fun acc => lcGo vs g c f ρ (xs.drop i) acc) H, ⟨xs.length, by simp, Nat.zero_le _, ?_⟩, ?_⟩
  · refine ⟨(he1.more more).step (Out.new hp), hP.step _ _ _ (Out.new hp) (hP.more _ _ _ more hP1), Stp.of_out (Out.new hp), ω, [], [], hg1.moreN hp (fun _ z => by cases z), upd_same, .nil, ?_⟩
    rw [List.drop_zero]
    exact hr
  · rintro i m H ⟨rfl, hi, L⟩
    obtain ⟨ω1, accV, accD, gd, hacc, hden, hret⟩ := L.st
    by_cases hlt : i < xs.length
    · refine .inr ⟨hP.go i _ _ L.it hlt, fun H' => LcI K mg W bx ea O σ ρ H1 P p Q (fun acc => lcGo vs g c f ρ (xs.drop (i + 1)) acc) H', fun H' L' => ⟨xs.length - (i + 1), by omega, rfl, hlt, L'⟩, fun x H' y => ?_⟩
      obtain ⟨oy, d, ed, hd⟩ := hP.yld i _ _ x H' L.it gd.nt hlt y
      have e1 : xs.drop i = d :: xs.drop (i + 1) := by
        obtain ⟨hl, e2⟩ := List.getElem?_eq_some_iff.mp ed
        rw [← e2]
        exact List.drop_eq_getElem_cons hl
      rw [e1] at hret
      have oO : Out (p :: O) H H' := oy.wide fun _ z => by cases z
      have env' := L.env.step oO
      have it' := hP.step _ _ _ oO L.it
      have stp' : Stp bx [p] H1 H' := L.stp.trans0 (Stp.of_out oy)
      have gd' := gd.out oy
      have den' := hden.step oO
      have acc' : H' p = some (.lst accV) := oy p _ hacc (by simp)
      -- the turn
      have hret2 : RetG K mg W bx O σ H1 (relL K mg bx O) (fun vs H' => ∀ p, H' p = none → Q (.ref p) (L2.upd H' p (.lst vs))) ((ofOpt ((g d).bind fun as => setsS (wipeS ρ vs) as) >>= fun ρ1 => ((c ρ1).nox >>= fun b => if b then (f ρ1).nox >>= fun y => if accD.length < 16000000 then lcGo vs g c f ρ (xs.drop (i + 1)) (accD ++ [y]) else M.bad else lcGo vs g c f ρ (xs.drop (i + 1)) accD)).run ω1) := by
        have z := hret
        simp only [lcGo, bind_assoc] at z ⊢
        exact z
      cases eg : (g d).bind fun as => setsS (wipeS ρ vs) as with
      | none => rw [eg] at hret2; exact hret2.elim
      | some ρ1 =>
        rw [eg] at hret2
        obtain ⟨as, eg1, eg2⟩ := Option.bind_eq_some_iff.mp eg
        refine ⟨bx, p :: O, d, as, hd, eg1, fun avs hav => ⟨wipe_same (setsV_ok (pairN_fst hav (hgm d as eg1))), ?_⟩⟩
        have he2 := (env'.wipe vs).sets hav eg2
        generalize setsV (L2.wipe σ vs) avs = σ2 at he2 ⊢
        have hret3 : RetG K mg W bx O σ H1 (relL K mg bx O) (fun vs H' => ∀ p, H' p = none → Q (.ref p) (L2.upd H' p (.lst vs))) (((c ρ1).nox >>= fun b => (if b then (f ρ1).nox >>= fun y => if accD.length < 16000000 then lcGo vs g c f ρ (xs.drop (i + 1)) (accD ++ [y]) else M.bad else lcGo vs g c f ρ (xs.drop (i + 1)) accD)).run ω1) := by
          have z := hret2
          simp only [ofOpt_some, pure_bind, bind_assoc] at z ⊢
          exact z
        -- the condition, then the element, at the heaps of the turn
        have keyc : RetG K mg W0 bx (p :: O) σ2 H' (relB bx (p :: O)) (fun b H3 => if b = true then tE K mg W0 ea f σ2 H3 (fun y H4 => ∃ acc, H4 p = some (.lst acc) ∧ acc.length < sizeLine ∧ LcI K mg W bx ea O σ ρ H1 P p Q (fun acc => lcGo vs g c f ρ (xs.drop (i + 1)) acc) (L2.upd H4 p (.lst (acc ++ [y])))) else LcI K mg W bx ea O σ ρ H1 P p Q (fun acc => lcGo vs g c f ρ (xs.drop (i + 1)) acc) H3) ((c ρ1).run ω1) := by
          rw [M.bind_run] at hret3
          unfold M.nox at hret3
          dsimp only at hret3
          cases ec : (c ρ1).run ω1 with
          | exc _ _ _ => rw [ec] at hret3; exact hret3.elim
          | bad => rw [ec] at hret3; exact hret3.elim
          | ok b ω2 =>
            rw [ec] at hret3
            intro b' H3 s3 g3 eb
            cases eb
            have o3 : Out (p :: O) H' H3 := s3.out0 gd'
            have acc3 : H3 p = some (.lst accV) := by
              have z := s3.keep p _ acc' (by
                intro z
                rw [List.append_nil] at z
                cases bx with
                | none => cases z
                | some q =>
                  have e : p = q := by simpa [bxl] using z
                  exact nbx (by rw [e]))
              exact z
            have stp3 : Stp bx [p] H1 H3 := stp'.trans0 s3
            cases b with
            | false =>
              exact ⟨env'.step o3, hP.step _ _ _ o3 it', stp3, ω2, accV, accD, g3, acc3, den'.step o3, hret3⟩
            | true =>
              show tE K mg W0 ea f σ2 H3 _
              refine ⟨bx, p :: O, ω2, ρ1, he2.step o3, g3, ?_⟩
              have hret4 : RetG K mg W bx O σ H1 (relL K mg bx O) (fun vs H' => ∀ p, H' p = none → Q (.ref p) (L2.upd H' p (.lst vs))) ((((f ρ1).nox >>= fun y => if accD.length < 16000000 then lcGo vs g c f ρ (xs.drop (i + 1)) (accD ++ [y]) else M.bad)).run ω2) := hret3
              rw [M.bind_run] at hret4
              unfold M.nox at hret4
              dsimp only at hret4
              cases ef : (f ρ1).run ω2 with
              | exc _ _ _ => rw [ef] at hret4; exact hret4.elim
              | bad => rw [ef] at hret4; exact hret4.elim
              | ok y ω3 =>
                rw [ef] at hret4
                intro yv H4 s4 g4 hy
                have o4 : Out (p :: O) H3 H4 := s4.out0 g3
                have acc4 : H4 p = some (.lst accV) := s4.keep p _ acc3 (by
                  intro z
                  rw [List.append_nil] at z
                  cases bx with
                  | none => cases z
                  | some q =>
                    have e : p = q := by simpa [bxl] using z
                    exact nbx (by rw [e]))
                by_cases hl : accD.length < 16000000
                · refine ⟨accV, acc4, ?_, ?_⟩
                  · have z := den'.length
                    rw [sizeLine_eq]
                    omega
                  · have ou : Out (p :: O) H4 (L2.upd H4 p (.lst (accV ++ [yv]))) := Out.upd List.mem_cons_self
                    refine ⟨((env'.step o3).step o4).step ou, hP.step _ _ _ ou (hP.step _ _ _ o4 (hP.step _ _ _ o3 it')), (stp3.trans0 s4).trans (Stp.upd (L := [p]) (by simp) nbx) fun q z => .inl z, ω3, accV ++ [yv], accD ++ [y], g4.upd List.mem_cons_self nbx (fun _ z => by cases z), upd_same, (((den'.step o3).step o4).step ou).append (.cons (hy.step ou) .nil), ?_⟩
                    have z : RetG K mg W bx O σ H1 (relL K mg bx O) (fun vs H' => ∀ p, H' p = none → Q (.ref p) (L2.upd H' p (.lst vs))) (((if accD.length < 16000000 then lcGo vs g c f ρ (xs.drop (i + 1)) (accD ++ [y]) else M.bad)).run ω3) := hret4
                    rw [if_pos hl] at z
                    exact z
                · have z : RetG K mg W bx O σ H1 (relL K mg bx O) (fun vs H' => ∀ p, H' p = none → Q (.ref p) (L2.upd H' p (.lst vs))) (((if accD.length < 16000000 then lcGo vs g c f ρ (xs.drop (i + 1)) (accD ++ [y]) else M.bad)).run ω3) := hret4
                  rw [if_neg hl] at z
                  exact z.elim
        exact ⟨bx, p :: O, ω1, ρ1, he2, gd', keyc⟩
    · refine .inl ⟨hP.stop i _ _ L.it (by omega), ?_⟩
      have e1 : xs.drop i = [] := List.drop_eq_nil_of_le (by omega)
      rw [e1] at hret
      -- the list at p as a new one
      have ou : Out (p :: O) H (fun b => if b = p then none else H b) := fun a o e n => by
        show (if a = p then none else H a) = some o
        rw [if_neg (fun z => n (by simp [z]))]
        exact e
      have os : Stp bx [p] H1 (fun b => if b = p then none else H b) → Stp bx [] H1 (fun b => if b = p then none else H b) := fun s => s.fresh hp
      have ne : ∀ {a : Addr} {o : HO}, H1 a = some o → a ≠ p := fun e => ne_of_none e hp
      have s2 : Stp bx [] H1 (fun b => if b = p then none else H b) := by
        refine ⟨fun a o e n => ?_, fun a o e => ?_, fun a ea a0 vs0 e => ?_⟩
        · show (if a = p then none else H a) = some o
          rw [if_neg (ne e)]
          exact (L.stp.fresh hp).keep a o e n
        · show ∃ o', (if a = p then none else H a) = some o'
          rw [if_neg (ne e)]
          exact L.stp.live a o e
        · obtain ⟨a1, vs1, e1, h1⟩ := L.stp.bxk a ea a0 vs0 e
          refine ⟨a1, vs1, ?_, h1⟩
          show (if a = p then none else H a) = _
          rw [if_neg (ne e)]
          exact e1
      have g2 : Good bx O (fun b => if b = p then none else H b) ω1 := by
        have gl := gd.less bxO
        have nO : ∀ {a : Addr}, a ∈ O → a ≠ p := fun h z => by
          obtain ⟨o, e, _⟩ := hg1.nt _ h
          exact ne e z
        refine ⟨fun a h => ?_, fun a e => ?_⟩
        · obtain ⟨o, e, n⟩ := gl.nt a h
          refine ⟨o, ?_, n⟩
          show (if a = p then none else H a) = _
          rw [if_neg (nO h)]
          exact e
        · obtain ⟨h, a0, n, e0, e1⟩ := gd.bx a e
          refine ⟨bxO a e, a0, fun z => n (List.mem_cons_of_mem _ z), ?_, ?_⟩
          · show (if a0 = p then none else H a0) = _
            rw [if_neg (fun z => n (by simp [z]))]
            exact e0
          · show (if a = p then none else H a) = _
            rw [if_neg (nO (bxO a e))]
            exact e1
      have z := hret accV _ s2 g2 ((hden.step ou).mono fun a z => List.mem_cons_of_mem _ z) p (if_pos rfl)
      rw [upd_hide hacc] at z
      exact z
theorem dn_lc {elt tg iter : Expr} {ifs : List Expr} {scope : Scope} {own : List (Str × Nat)} {it : Sls → M (List D)} {g : D → Option (List (Nat × D))} {c : Sls → M Bool} {f : Sls → M D} (hc : X.calm = true) (hN : X.N.Nodup) (hi : DI X W ea tg iter it) (ok : BlkOk X.N X.env.scope scope own)
    (hg : ∀ (s : Shared) (H : Hp) (C : Addr) (cl : List (Str × Addr)) (fp : List Addr), DG (X.blk s H scope (compEnvC scope cl C X.env) fp) (own.map (·.2)) tg g)
    (ht : ∀ (s : Shared) (H : Hp) (C : Addr) (cl : List (Str × Addr)) (fp : List Addr), DTs (X.blk s H scope (compEnvC scope cl C X.env) fp) W0 ea ifs c)
    (he : ∀ (s : Shared) (H : Hp) (C : Addr) (cl : List (Str × Addr)) (fp : List Addr), DE (X.blk s H scope (compEnvC scope cl C X.env) fp) W0 ea elt f) (hs : ∀ x, foldedSetIterable iter X.env x = pure x := by intro _; rfl) :
    DN X W ea (.ListComp elt [⟨tg, iter, ifs, 0⟩] scope pos) (eLC it (own.map (·.2)) g c f) :=
  pe_weak (pe_lc (g := gU X.K X.mg g) (te := tE X.K X.mg W0 ea f) (tt := tT X.K X.mg W0 ea c) hc hN hi ok (fun s H C cl fp => pg_gU (hg s H C cl fp)) (fun s H C cl fp => ht s H C cl fp) (fun s H C cl fp => he s H C cl fp) hs)
    fun σ H Q h => lc_read (hg X.s_0 X.H_0 0 [] []).1 h
end
end DL
end

section
set_option Elab.async false
set_option linter.all false
set_option maxRecDepth 100000
set_option maxHeartbeats 2000000
set_option autoImplicit false
/-! DL9: statements by deep values: the slots, own lists, sequences, tests, loops. -/
namespace DL
open PySem PySem.Spec PyProof.Rows L2

/-! ### the states of a body -/
inductive RS where
  | nx (ρ : Sls) (ω : Om)
  | rt (d : D) (ω : Om)
  | bk (ρ : Sls) (ω : Om)
  | ct (ρ : Sls) (ω : Om)
  | ex (c : Str) (fs : List (Str × D)) (ρ : Sls) (ω : Om)
  | bad
abbrev SM := Sls → Om → RS
/-- an own object at a -/
def OwnD (K : Fr) (mg : Mg) (ea : Option (Addr × Addr)) (bx : Option Addr) (A : List Addr) (H : Hp) (a : Addr) : D → Prop
  | .lst ds => ∃ vs, H a = some (.lst vs) ∧ DenL K mg bx A H vs ds
  | .obj c ns ds => (∃ z, ea = some (a, z)) ∧ ∃ C dx vs, mg c = some (.ref C) ∧ H a = some (.ins C dx (ns.zip vs)) ∧ ns.length = vs.length ∧ DenL K mg bx A H vs ds
  | _ => False
structure StOk (K : Fr) (mg : Mg) (bx : Option Addr) (ea : Option (Addr × Addr)) (O U : List Addr) (H : Hp) (σ : L2.St) (ρ : Sls) : Prop where
  len : σ.length = ρ.length
  val : ∀ (i : Nat) (d : D), ρ[i]? = some (.val d) → ∃ v, σ[i]? = some (some v) ∧ Den K mg bx (U ++ O) H v d
  own : ∀ (i : Nat) (d : D), ρ[i]? = some (.own d) → ∃ a, σ[i]? = some (some (.ref a)) ∧ a ∈ U ∧ OwnD K mg ea bx (U ++ O) H a d
  inj : ∀ (i j : Nat) (d d' : D) (v : V), ρ[i]? = some (.own d) → ρ[j]? = some (.own d') → σ[i]? = some (some v) → σ[j]? = some (some v) → i = j
  exn : ∀ (i : Nat) (fs : List (Str × D)), ρ[i]? = some (.exn fs) → ∃ a dd gs, ea = some (a, dd) ∧ σ[i]? = some (some (.ref a)) ∧ dd ∉ U ++ O ∧ H dd = some (.xd gs) ∧ Paired (fun (p : Str × V) (q : Str × D) => p.1 = q.1 ∧ Den K mg bx (U ++ O) H p.2 q.2) gs fs
  dis : ∀ a ∈ U, a ∉ O
  bxO : ∀ b, bx = some b → b ∈ O
section
variable {K : Fr} {mg : Mg} {bx : Option Addr} {ea : Option (Addr × Addr)} {O U U' : List Addr} {H H' : Hp} {σ : L2.St} {ρ ρ' : Sls} {ω ω' : Om}
theorem OwnD.step {A : List Addr} {a : Addr} {d : D} (h : OwnD K mg ea bx A H a d) (s : Out A H H') (e : ∀ o, H a = some o → H' a = some o) : OwnD K mg ea bx A H' a d := by
  cases d with
  | lst ds => obtain ⟨vs, h1, h2⟩ := h; exact ⟨vs, e _ h1, h2.step s⟩
  | obj c ns ds => obtain ⟨hz, C, dx, vs, h0, h1, h2, h3⟩ := h; exact ⟨hz, C, dx, vs, h0, e _ h1, h2, h3.step s⟩
  | _ => exact h.elim
theorem OwnD.more {A A' : List Addr} {a : Addr} {d : D} (h : OwnD K mg ea bx A H a d) (s : ∀ b ∈ A', b ∈ A ∨ H b = none) : OwnD K mg ea bx A' H a d := by
  cases d with
  | lst ds => obtain ⟨vs, h1, h2⟩ := h; exact ⟨vs, h1, h2.more s⟩
  | obj c ns ds => obtain ⟨hz, C, dx, vs, h0, h1, h2, h3⟩ := h; exact ⟨hz, C, dx, vs, h0, h1, h2, h3.more s⟩
  | _ => exact h.elim
/-- an own object, seen as a value that nobody changes -/
theorem OwnD.den {A A' : List Addr} {a : Addr} {d : D} (h : OwnD K mg ea bx A H a d) (s : ∀ b ∈ A', b ∈ A) (n : a ∉ A') : Den K mg bx A' H (.ref a) d := by
  cases d with
  | lst ds => obtain ⟨vs, h1, h2⟩ := h; exact .lst n h1 (h2.mono s)
  | obj c ns ds => obtain ⟨hz, C, dx, vs, h0, h1, h2, h3⟩ := h; exact .obj n h0 h1 h2 (h3.mono s)
  | _ => exact h.elim
theorem not_bx {a : Addr} (dis : ∀ a ∈ U, a ∉ O) (bxO : ∀ b, bx = some b → b ∈ O) (h : a ∈ U) : a ∉ bxl bx := fun z => by
  cases bx with
  | none => cases z
  | some b =>
    have e2 : a = b := by simpa [bxl] using z
    exact dis a h (by rw [e2]; exact bxO b rfl)
/-- behind an expression: nothing of ours is changed -/
theorem StOk.step0 (st : StOk K mg bx ea O U H σ ρ) (g : Good bx (U ++ O) H ω) (s : Stp bx [] H H') : StOk K mg bx ea O U H' σ ρ := by
  have o := s.out0 g
  refine ⟨st.len, fun i d h => ?_, fun i d h => ?_, st.inj, fun i fs h => ?_, st.dis, st.bxO⟩
  · obtain ⟨v, h1, h2⟩ := st.val i d h
    exact ⟨v, h1, h2.step o⟩
  · obtain ⟨a, h1, h2, h3⟩ := st.own i d h
    exact ⟨a, h1, h2, h3.step o fun ob e => s.keep a ob e fun z => not_bx st.dis st.bxO h2 (by simpa using z)⟩
  · obtain ⟨a, dd, gs, h2, h3, h4, h5, h6⟩ := st.exn i fs h
    exact ⟨a, dd, gs, h2, h3, h4, o _ _ h5 h4, Paired.mapP h6 fun p q z => ⟨z.1, z.2.step o⟩⟩
/-- the box's part for a wider set, behind an expression -/
theorem Good.back {A B : List Addr} {H1 : Hp} (g : Good bx A H ω) (g1 : Good bx B H1 ω') (s : Stp bx [] H H1) : Good bx A H1 ω' := by
  refine ⟨fun a h => ?_, fun a e => ?_⟩
  · by_cases z : a ∈ bxl bx
    · obtain ⟨o, e, n⟩ := g1.nt a (g1.sub a z)
      exact ⟨o, e, n⟩
    · obtain ⟨o, e, n⟩ := g.nt a h
      exact ⟨o, s.keep a o e (by simpa using z), n⟩
  · obtain ⟨h, a0, n, e0, e1⟩ := g.bx a e
    obtain ⟨h', a0', n', e0', e1'⟩ := g1.bx a e
    refine ⟨h, a0', ?_, e0', e1'⟩
    obtain ⟨a1, vs1, e2, h2⟩ := s.bxk a e a0 _ e1
    rw [e1'] at e2
    cases e2
    rcases h2 with h2 | h2
    · rw [h2]; exact n
    · intro z
      obtain ⟨o, e, _⟩ := g.nt _ z
      rw [h2] at e; cases e
theorem Good.sub_ {A B : List Addr} (g : Good bx A H ω) (h : ∀ a ∈ B, a ∈ A) (hb : ∀ b, bx = some b → b ∈ B) : Good bx B H ω :=
  ⟨fun a z => g.nt a (h a z), fun a e => let ⟨_, a0, n, e0, e1⟩ := g.bx a e; ⟨hb a e, a0, fun z => n (h _ z), e0, e1⟩⟩

/-! ### what an expression sees -/
def Sl.vis (q : Bool) : Sl → Sl
  | .own d => if q then .own d else .no
  | s => s
def Sl.frz (q : Bool) : Sl → Sl
  | .own d => if q then .val d else .own d
  | s => s
def visG (B : List Nat) : Nat → Sls → Sls
  | _, [] => []
  | i, s :: r => s.vis (B.contains i) :: visG B (i + 1) r
def frzG (B : List Nat) : Nat → Sls → Sls
  | _, [] => []
  | i, s :: r => s.frz (B.contains i) :: frzG B (i + 1) r
abbrev vis (B : List Nat) (ρ : Sls) : Sls := visG B 0 ρ
abbrev frz (B : List Nat) (ρ : Sls) : Sls := frzG B 0 ρ
theorem visG_get (B : List Nat) : ∀ (ρ : Sls) (k i : Nat), (visG B k ρ)[i]? = (ρ[i]?).map fun s => s.vis (B.contains (k + i))
  | [], _, _ => by simp [visG]
  | s :: r, k, 0 => by simp [visG]
  | s :: r, k, i + 1 => by
    simp only [visG, List.getElem?_cons_succ]
    rw [visG_get B r (k + 1) i]
    have e : k + 1 + i = k + (i + 1) := by omega
    rw [e]
theorem frzG_get (B : List Nat) : ∀ (ρ : Sls) (k i : Nat), (frzG B k ρ)[i]? = (ρ[i]?).map fun s => s.frz (B.contains (k + i))
  | [], _, _ => by simp [frzG]
  | s :: r, k, 0 => by simp [frzG]
  | s :: r, k, i + 1 => by
    simp only [frzG, List.getElem?_cons_succ]
    rw [frzG_get B r (k + 1) i]
    have e : k + 1 + i = k + (i + 1) := by omega
    rw [e]
theorem visG_length (B : List Nat) : ∀ (ρ : Sls) (k : Nat), (visG B k ρ).length = ρ.length
  | [], _ => rfl
  | s :: r, k => by simp [visG, visG_length B r (k + 1)]
theorem frzG_length (B : List Nat) : ∀ (ρ : Sls) (k : Nat), (frzG B k ρ).length = ρ.length
  | [], _ => rfl
  | s :: r, k => by simp [frzG, frzG_length B r (k + 1)]
/-- the own objects at B are given up: an expression may see them -/
theorem StOk.split (st : StOk K mg bx ea O U H σ ρ) (B : List Nat) : ∃ U1, (∀ a ∈ U1, a ∈ U) ∧ EnvOk K mg bx ea (U1 ++ O) H σ (vis B ρ) ∧ StOk K mg bx ea O U1 H σ (frz B ρ) := by
  classical
  let U1 := U.filter fun a => decide (∀ i d, i ∈ B → ρ[i]? = some (.own d) → σ[i]? ≠ some (some (.ref a)))
  have m1 : ∀ a, a ∈ U1 → a ∈ U ∧ ∀ i d, i ∈ B → ρ[i]? = some (.own d) → σ[i]? ≠ some (some (.ref a)) := fun a h => by
    have z := List.mem_filter.mp h
    exact ⟨z.1, of_decide_eq_true z.2⟩
  have sub : ∀ a ∈ U1 ++ O, a ∈ U ++ O := fun a h => (List.mem_append.mp h).elim (fun z => List.mem_append_left _ (m1 a z).1) fun z => List.mem_append_right _ z
  have gone : ∀ i d, i ∈ B → ρ[i]? = some (.own d) → ∃ a, σ[i]? = some (some (.ref a)) ∧ Den K mg bx (U1 ++ O) H (.ref a) d := fun i d hi h => by
    obtain ⟨a, h1, h2, h3⟩ := st.own i d h
    refine ⟨a, h1, h3.den sub fun z => ?_⟩
    rcases List.mem_append.mp z with z | z
    · exact (m1 a z).2 i d hi h h1
    · exact st.dis a h2 z
  refine ⟨U1, fun a h => (m1 a h).1, ⟨by rw [visG_length]; exact st.len, fun i s d h1 h2 => ?_, fun i fs h1 => ?_⟩, ⟨by rw [frzG_length]; exact st.len, fun i d h => ?_, fun i d h => ?_, fun i j d d' v h1 h2 h3 h4 => ?_, fun i fs h => ?_, fun a h => st.dis a (m1 a h).1, st.bxO⟩⟩
  · rw [visG_get, Nat.zero_add] at h1
    obtain ⟨s0, e0, rfl⟩ := Option.map_eq_some_iff.mp h1
    cases s0 with
    | no => cases h2
    | exn fs => cases h2
    | val d0 =>
      cases h2
      obtain ⟨v, h3, h4⟩ := st.val i _ e0
      exact ⟨v, h3, h4.mono sub⟩
    | own d0 =>
      by_cases q : B.contains i = true
      · have h2' : Sl.get (if B.contains i = true then Sl.own d0 else Sl.no) = some d := h2
        rw [if_pos q] at h2'
        cases h2'
        obtain ⟨a, h3, h4⟩ := gone i _ (List.contains_iff_mem.mp q) e0
        exact ⟨_, h3, h4⟩
      · have h2' : Sl.get (if B.contains i = true then Sl.own d0 else Sl.no) = some d := h2
        rw [if_neg q] at h2'
        cases h2'
  · rw [visG_get, Nat.zero_add] at h1
    obtain ⟨s0, e0, e1⟩ := Option.map_eq_some_iff.mp h1
    have e2 : s0 = .exn fs := by
      cases s0 with
      | own d0 =>
        have e1' : (if B.contains i = true then Sl.own d0 else Sl.no) = .exn fs := e1
        by_cases q : B.contains i = true
        · rw [if_pos q] at e1'; cases e1'
        · rw [if_neg q] at e1'; cases e1'
      | no => cases e1
      | val _ => cases e1
      | exn _ => exact e1
    subst e2
    obtain ⟨a, dd, gs, h2, h3, h4, h5, h6⟩ := st.exn i fs e0
    exact ⟨a, dd, gs, h2, h3, fun z => h4 (sub _ z), h5, Paired.mapP h6 fun p q z => ⟨z.1, z.2.mono sub⟩⟩
  · rw [frzG_get, Nat.zero_add] at h
    obtain ⟨s0, e0, e1⟩ := Option.map_eq_some_iff.mp h
    cases s0 with
    | no => cases e1
    | exn fs => cases e1
    | val d0 =>
      cases e1
      obtain ⟨v, h3, h4⟩ := st.val i _ e0
      exact ⟨v, h3, h4.mono sub⟩
    | own d0 =>
      have e1' : (if B.contains i = true then Sl.val d0 else Sl.own d0) = .val d := e1
      by_cases q : B.contains i = true
      · rw [if_pos q] at e1'
        cases e1'
        obtain ⟨a, h3, h4⟩ := gone i _ (List.contains_iff_mem.mp q) e0
        exact ⟨_, h3, h4⟩
      · rw [if_neg q] at e1'; cases e1'
  · rw [frzG_get, Nat.zero_add] at h
    obtain ⟨s0, e0, e1⟩ := Option.map_eq_some_iff.mp h
    cases s0 with
    | no => cases e1
    | exn fs => cases e1
    | val d0 => cases e1
    | own d0 =>
      have e1' : (if B.contains i = true then Sl.val d0 else Sl.own d0) = .own d := e1
      by_cases q : B.contains i = true
      · rw [if_pos q] at e1'; cases e1'
      · rw [if_neg q] at e1'
        cases e1'
        obtain ⟨a, h1, h2, h3⟩ := st.own i _ e0
        refine ⟨a, h1, List.mem_filter.mpr ⟨h2, decide_eq_true fun j d' hj e' hs => ?_⟩, h3.more fun b z => .inl (sub b z)⟩
        have e := st.inj i j _ _ _ e0 e' h1 hs
        exact q (List.contains_iff_mem.mpr (by rw [e]; exact hj))
  · have back : ∀ {k : Nat} {d : D}, (frz B ρ)[k]? = some (.own d) → ρ[k]? = some (.own d) := fun {k d} h => by
      rw [frzG_get, Nat.zero_add] at h
      obtain ⟨s0, e0, e1⟩ := Option.map_eq_some_iff.mp h
      cases s0 with
      | no => cases e1
      | exn fs => cases e1
      | val d0 => cases e1
      | own d0 =>
        have e1' : (if B.contains k = true then Sl.val d0 else Sl.own d0) = .own d := e1
        by_cases q : B.contains k = true
        · rw [if_pos q] at e1'; cases e1'
        · rw [if_neg q] at e1'; cases e1'; exact e0
    exact st.inj i j d d' v (back h1) (back h2) h3 h4
  · rw [frzG_get, Nat.zero_add] at h
    obtain ⟨s0, e0, e1⟩ := Option.map_eq_some_iff.mp h
    have e2 : s0 = .exn fs := by
      cases s0 with
      | own d0 =>
        have e1' : (if B.contains i = true then Sl.val d0 else Sl.own d0) = .exn fs := e1
        by_cases q : B.contains i = true
        · rw [if_pos q] at e1'; cases e1'
        · rw [if_neg q] at e1'; cases e1'
      | no => cases e1
      | val _ => cases e1
      | exn _ => exact e1
    subst e2
    obtain ⟨a, dd, gs, h2, h3, h4, h5, h6⟩ := st.exn i fs e0
    exact ⟨a, dd, gs, h2, h3, fun z => h4 (sub _ z), h5, Paired.mapP h6 fun p q z => ⟨z.1, z.2.mono sub⟩⟩
end

/-! ### what a statement's end asks -/
def Fin (K : Fr) (mg : Mg) (W : WX) (bx : Option Addr) (ea : Option (Addr × Addr)) (O U : List Addr) (H : Hp) (Dd : Ends) : RS → Prop
  | .nx ρ' ω' => ∀ σ' H' U', Stp bx U H H' → (∀ a ∈ U', a ∈ U ∨ H a = none) → StOk K mg bx ea O U' H' σ' ρ' → Good bx (U' ++ O) H' ω' → Dd.nx σ' H'
  | .bk ρ' ω' => ∀ σ' H' U', Stp bx U H H' → (∀ a ∈ U', a ∈ U ∨ H a = none) → StOk K mg bx ea O U' H' σ' ρ' → Good bx (U' ++ O) H' ω' → Dd.bk σ' H'
  | .ct ρ' ω' => ∀ σ' H' U', Stp bx U H H' → (∀ a ∈ U', a ∈ U ∨ H a = none) → StOk K mg bx ea O U' H' σ' ρ' → Good bx (U' ++ O) H' ω' → Dd.ct σ' H'
  | .rt d ω' => ∀ v H', Stp bx U H H' → Good bx O H' ω' → Den K mg bx O H' v d → Dd.rt v H'
  | .ex c fs ρ' ω' => ∀ C dd gs σ' H' U', mg c = some (.ref C) → Stp bx U H H' → (∀ a ∈ U', a ∈ U ∨ H a = none) → StOk K mg bx ea O U' H' σ' ρ' → Good bx (U' ++ O) H' ω' → dd ∉ U' ++ O → H' dd = some (.xd gs) →
      Paired (fun (p : Str × V) (q : Str × D) => p.1 = q.1 ∧ Den K mg bx (U' ++ O) H' p.2 q.2) gs fs → W (.ref C) (some dd) σ' H'
  | .bad => False
def tS (K : Fr) (mg : Mg) (W : WX) (ea : Option (Addr × Addr)) (s : SM) : TS := fun Dd σ H => ∃ bx O U ω ρ, StOk K mg bx ea O U H σ ρ ∧ Good bx (U ++ O) H ω ∧ Fin K mg W bx ea O U H Dd (s ρ ω)
abbrev DS (X : Cx) (W : WX) (ea : Option (Addr × Addr)) (st : Stmt) (s : SM) : Prop := PS X st (tS X.K X.mg W ea s)
abbrev DSs (X : Cx) (W : WX) (ea : Option (Addr × Addr)) (st : List Stmt) (s : SM) : Prop := PSs X st (tS X.K X.mg W ea s)
theorem ps_weak {X : Cx} {st : Stmt} {t t' : TS} (h : PS X st t) (w : ∀ D σ H, t' D σ H → t D σ H) : PS X st t' := ⟨fun pins s σ H D I hq => h.run pins s σ H D I (w D σ H hq)⟩
theorem pss_weak {X : Cx} {st : List Stmt} {t t' : TS} (h : PSs X st t) (w : ∀ D σ H, t' D σ H → t D σ H) : PSs X st t' := ⟨fun pins s σ H D I hq => h.run pins s σ H D I (w D σ H hq)⟩
section
variable {K : Fr} {mg : Mg} {W : WX} {bx : Option Addr} {ea : Option (Addr × Addr)} {O U U1 : List Addr} {H H1 : Hp} {σ : L2.St} {ρ : Sls} {ω : Om} {Dd : Ends}
/-- from a later state -/
theorem Fin.later {r : RS} (h : Fin K mg W bx ea O U H Dd r) (s : Stp bx U H H1) (hu : ∀ a ∈ U1, a ∈ U ∨ H a = none) : Fin K mg W bx ea O U1 H1 Dd r := by
  have hu2 : ∀ {U2 : List Addr}, (∀ a ∈ U2, a ∈ U1 ∨ H1 a = none) → ∀ a ∈ U2, a ∈ U ∨ H a = none := fun h2 a z => (h2 a z).elim (hu a) fun n => .inr (by
    cases q : H a with
    | none => rfl
    | some o =>
      obtain ⟨o', e'⟩ := s.live a o q
      rw [n] at e'; cases e')
  cases r with
  | nx ρ' ω' => exact fun σ' H' U' s' u st g => h σ' H' U' (s.trans s' hu) (hu2 u) st g
  | bk ρ' ω' => exact fun σ' H' U' s' u st g => h σ' H' U' (s.trans s' hu) (hu2 u) st g
  | ct ρ' ω' => exact fun σ' H' U' s' u st g => h σ' H' U' (s.trans s' hu) (hu2 u) st g
  | rt d ω' => exact fun v H' s' g dn => h v H' (s.trans s' hu) g dn
  | ex c fs ρ' ω' => exact fun C dd gs σ' H' U' m s' u st g => h C dd gs σ' H' U' m (s.trans s' hu) (hu2 u) st g
  | bad => exact h
theorem Fin.mono {r : RS} {Dd' : Ends} (h : Fin K mg W bx ea O U H Dd r) (h1 : ∀ σ' H', Dd.nx σ' H' → Dd'.nx σ' H') (h2 : ∀ v H', Dd.rt v H' → Dd'.rt v H') (h3 : ∀ σ' H', Dd.bk σ' H' → Dd'.bk σ' H') (h4 : ∀ σ' H', Dd.ct σ' H' → Dd'.ct σ' H') : Fin K mg W bx ea O U H Dd' r := by
  cases r with
  | nx ρ' ω' => exact fun σ' H' U' s' u st g => h1 _ _ (h σ' H' U' s' u st g)
  | bk ρ' ω' => exact fun σ' H' U' s' u st g => h3 _ _ (h σ' H' U' s' u st g)
  | ct ρ' ω' => exact fun σ' H' U' s' u st g => h4 _ _ (h σ' H' U' s' u st g)
  | rt d ω' => exact fun v H' s' g dn => h2 _ _ (h v H' s' g dn)
  | ex c fs ρ' ω' => exact h
  | bad => exact h

/-! ### an expression in a statement -/
def freeF : List (Str × D) → Bool
  | [] => true
  | p :: r => p.2.free && freeF r
/-- the expression sees the own objects at B; a result that may hold them takes them -/
def sEv (B : List Nat) (f : Sls → M D) (k : D → SM) : SM := fun ρ ω => match (f (vis B ρ)).run ω with
  | .ok d ω' => if d.free then k d ρ ω' else k d (frz B ρ) ω'
  | .exc c fs ω' => .ex c fs (frz B ρ) ω'
  | .bad => .bad
def cEv (B : List Nat) (c : Sls → M Bool) (k : Bool → SM) : SM := fun ρ ω => match (c (vis B ρ)).run ω with
  | .ok b ω' => k b ρ ω'
  | .exc c fs ω' => .ex c fs (frz B ρ) ω'
  | .bad => .bad
theorem bx_app (st : StOk K mg bx ea O U H σ ρ) : ∀ b, bx = some b → b ∈ U1 ++ O := fun b e => List.mem_append_right _ (st.bxO b e)
theorem ev_go {f : Sls → M D} {B : List Nat} {k : D → SM} {R : VK} (st : StOk K mg bx ea O U H σ ρ) (g : Good bx (U ++ O) H ω) (h : Fin K mg W bx ea O U H Dd (sEv B f k ρ ω))
    (hk : ∀ d v ρ1 U1 ω1 H1, Stp bx U H H1 → (∀ a ∈ U1, a ∈ U) → StOk K mg bx ea O U1 H1 σ ρ1 → Good bx (U1 ++ O) H1 ω1 → Den K mg bx (U1 ++ O) H1 v d → Fin K mg W bx ea O U1 H1 Dd (k d ρ1 ω1) → R v H1) : tE K mg W ea f σ H R := by
  obtain ⟨U1, hu, he, st1⟩ := st.split B
  have sub : ∀ a ∈ U1 ++ O, a ∈ U ++ O := fun a h => (List.mem_append.mp h).elim (fun z => List.mem_append_left _ (hu a z)) fun z => List.mem_append_right _ z
  have g1 : Good bx (U1 ++ O) H ω := g.sub_ sub (bx_app st)
  refine ⟨bx, U1 ++ O, ω, _, he, g1, ?_⟩
  unfold sEv at h
  cases e : (f (vis B ρ)).run ω with
  | bad => rw [e] at h; exact h
  | exc c fs ω' =>
    rw [e] at h
    intro C dd gs H' m s' g' nd hdd hp
    exact h C dd gs σ H' U1 m (s'.wide fun c z => by cases z) (fun a z => .inl (hu a z)) (st1.step0 g1 s') g' nd hdd hp
  | ok d ω' =>
    rw [e] at h
    dsimp only at h
    intro v H' s' g' dn
    have sw : Stp bx U H H' := s'.wide fun c z => by cases z
    cases q : d.free with
    | true =>
      rw [q, if_pos rfl] at h
      have gU := g.back g' s'
      exact hk d v ρ U ω' H' sw (fun a z => z) (st.step0 g s') gU (Den.of_free gU.nt q dn) (h.later sw fun a z => .inl z)
    | false =>
      rw [q, if_neg (by decide)] at h
      exact hk d v _ U1 ω' H' sw hu (st1.step0 g1 s') g' dn (h.later sw fun a z => .inl (hu a z))
theorem cv_go {c : Sls → M Bool} {B : List Nat} {k : Bool → SM} {R : Bool → Hp → Prop} (st : StOk K mg bx ea O U H σ ρ) (g : Good bx (U ++ O) H ω) (h : Fin K mg W bx ea O U H Dd (cEv B c k ρ ω))
    (hk : ∀ b ω1 H1, Stp bx U H H1 → StOk K mg bx ea O U H1 σ ρ → Good bx (U ++ O) H1 ω1 → Fin K mg W bx ea O U H1 Dd (k b ρ ω1) → R b H1) : tT K mg W ea c σ H R := by
  obtain ⟨U1, hu, he, st1⟩ := st.split B
  have sub : ∀ a ∈ U1 ++ O, a ∈ U ++ O := fun a h => (List.mem_append.mp h).elim (fun z => List.mem_append_left _ (hu a z)) fun z => List.mem_append_right _ z
  have g1 : Good bx (U1 ++ O) H ω := g.sub_ sub (bx_app st)
  refine ⟨bx, U1 ++ O, ω, _, he, g1, ?_⟩
  unfold cEv at h
  cases e : (c (vis B ρ)).run ω with
  | bad => rw [e] at h; exact h
  | exc c fs ω' =>
    rw [e] at h
    intro C dd gs H' m s' g' nd hdd hp
    exact h C dd gs σ H' U1 m (s'.wide fun c z => by cases z) (fun a z => .inl (hu a z)) (st1.step0 g1 s') g' nd hdd hp
  | ok d ω' =>
    rw [e] at h
    dsimp only at h
    intro v H' s' g' dn
    cases dn
    have sw : Stp bx U H H' := s'.wide fun c z => by cases z
    exact hk _ ω' H' sw (st.step0 g s') (g.back g' s') (h.later sw fun a z => .inl z)
theorem StOk.set {i : Nat} {v : V} {d : D} (st : StOk K mg bx ea O U H σ ρ) (h : Den K mg bx (U ++ O) H v d) (hi : i < ρ.length) : StOk K mg bx ea O U H (σ.set i (some v)) (ρ.set i (.val d)) := by
  have hs : i < σ.length := by rw [st.len]; exact hi
  have back : ∀ {j : Nat} {s : Sl}, (ρ.set i (.val d))[j]? = some s → (j = i ∧ s = .val d) ∨ (i ≠ j ∧ ρ[j]? = some s) := fun {j s} h1 => by
    by_cases z : i = j
    · subst z
      rw [List.getElem?_set_self hi] at h1
      cases h1
      exact .inl ⟨rfl, rfl⟩
    · rw [List.getElem?_set_ne z] at h1
      exact .inr ⟨z, h1⟩
  refine ⟨by rw [List.length_set, List.length_set, st.len], fun j d' h1 => ?_, fun j d' h1 => ?_, fun j k d1 d2 v' h1 h2 h3 h4 => ?_, fun j fs h1 => ?_, st.dis, st.bxO⟩
  · rcases back h1 with ⟨rfl, e⟩ | ⟨z, e⟩
    · cases e
      exact ⟨v, by rw [List.getElem?_set_self hs], h⟩
    · rw [List.getElem?_set_ne z]
      exact st.val j d' e
  · rcases back h1 with ⟨rfl, e⟩ | ⟨z, e⟩
    · cases e
    · rw [List.getElem?_set_ne z]
      exact st.own j d' e
  · rcases back h1 with ⟨rfl, e⟩ | ⟨z, e⟩
    · cases e
    · rcases back h2 with ⟨rfl, e'⟩ | ⟨z', e'⟩
      · cases e'
      · rw [List.getElem?_set_ne z] at h3
        rw [List.getElem?_set_ne z'] at h4
        exact st.inj j k d1 d2 v' e e' h3 h4
  · rcases back h1 with ⟨rfl, e⟩ | ⟨z, e⟩
    · cases e
    · rw [List.getElem?_set_ne z]
      exact st.exn j fs e
theorem StOk.sets : ∀ {as : List (Nat × D)} {avs : List (Nat × V)} {σ : L2.St} {ρ ρ' : Sls}, StOk K mg bx ea O U H σ ρ → PairN K mg bx (U ++ O) H avs as → setsS ρ as = some ρ' → StOk K mg bx ea O U H (setsV σ avs) ρ'
  | [], _, σ, ρ, ρ', e, .nil, h => by cases h; exact e
  | (i, d) :: r, (j, v) :: rv, σ, ρ, ρ', e, .cons h1 h2, h => by
    obtain ⟨rfl, hd⟩ := h1
    have h' : (if j < ρ.length then setsS (ρ.set j (.val d)) r else none) = some ρ' := h
    by_cases hl : j < ρ.length
    · rw [if_pos hl] at h'
      exact StOk.sets (as := r) (avs := rv) (σ := σ.set j (some v)) (e.set hd hl) h2 h'
    · rw [if_neg hl] at h'; cases h'
end
end DL
end

section
set_option Elab.async false
set_option linter.all false
set_option maxRecDepth 100000
set_option maxHeartbeats 2000000
set_option autoImplicit false
/-! DL10: the rules for statements. -/
namespace DL
open PySem PySem.Spec PyProof.Rows L2

section
variable {X : Cx} {W : WX} {ea : Option (Addr × Addr)} {a b c e o : Expr} {es : List Expr} {f g k : Sls → M D} {pos : Pos} {st : Stmt} {rest : List Stmt} {s t : SM}

theorem ends_app {O U : List Addr} : ∀ a ∈ O, a ∈ U ++ O := fun a h => List.mem_append_right _ h
/-! ### blocks -/
def sNil : SM := fun ρ ω => .nx ρ ω
def sSeq (s t : SM) : SM := fun ρ ω => match s ρ ω with
  | .nx ρ' ω' => t ρ' ω'
  | r => r
theorem dss_nil : DSs X W ea [] sNil := pss_weak pss_nil fun D σ H h => by
  obtain ⟨bx, O, U, ω, ρ, st, g, h⟩ := h
  exact h σ H U Stp.refl (fun a z => .inl z) st g
theorem seq_go {K : Fr} {mg : Mg} {σ : L2.St} {H : Hp} {D : Ends} (h : tS K mg W ea (sSeq s t) D σ H) : tSeq (tS K mg W ea s) (tS K mg W ea t) D σ H := by
  obtain ⟨bx, O, U, ω, ρ, st, g, h⟩ := h
  refine ⟨bx, O, U, ω, ρ, st, g, ?_⟩
  unfold sSeq at h
  cases e : s ρ ω with
  | nx ρ' ω' =>
    rw [e] at h
    intro σ' H' U' s' u st' g'
    exact ⟨bx, O, U', ω', ρ', st', g', h.later s' u⟩
  | bk ρ' ω' => rw [e] at h; exact h
  | ct ρ' ω' => rw [e] at h; exact h
  | rt d ω' => rw [e] at h; exact h
  | ex c fs ρ' ω' => rw [e] at h; exact h
  | bad => rw [e] at h; exact h
theorem dss_cons (h1 : DS X W ea st s) (h2 : DSs X W ea rest t) : DSs X W ea (st :: rest) (sSeq s t) := pss_weak (pss_cons h1 h2) fun D σ H h => seq_go h
theorem dss_one (h1 : DS X W ea st s) : DSs X W ea [st] s := pss_one h1

/-! ### small statements -/
theorem ds_pass : DS X W ea (.Pass pos) sNil := ps_weak ps_pass fun D σ H h => by
  obtain ⟨bx, O, U, ω, ρ, st, g, h⟩ := h
  exact h σ H U Stp.refl (fun a z => .inl z) st g
def sBrk : SM := fun ρ ω => .bk ρ ω
def sCnt : SM := fun ρ ω => .ct ρ ω
theorem ds_break : DS X W ea (.Break pos) sBrk := ps_weak ps_break fun D σ H h => by
  obtain ⟨bx, O, U, ω, ρ, st, g, h⟩ := h
  exact h σ H U Stp.refl (fun a z => .inl z) st g
theorem ds_continue : DS X W ea (.Continue pos) sCnt := ps_weak ps_continue fun D σ H h => by
  obtain ⟨bx, O, U, ω, ρ, st, g, h⟩ := h
  exact h σ H U Stp.refl (fun a z => .inl z) st g
def sDrop (B : List Nat) (f : Sls → M D) : SM := sEv B f fun _ ρ ω => .nx ρ ω
theorem ds_expr {B : List Nat} (he : DE X W ea e f) (hs : swapsWith e none pos.line X.env = pure false := by rfl) : DS X W ea (.Expr e pos) (sDrop B f) := ps_weak (ps_expr he hs) fun D σ H h => by
  obtain ⟨bx, O, U, ω, ρ, st, g, h⟩ := h
  refine ev_go st g h fun d v ρ1 U1 ω1 H1 s1 u1 st1 g1 hv hf => ?_
  exact hf σ H1 U1 Stp.refl (fun a z => .inl z) st1 g1
def sRet (B : List Nat) (f : Sls → M D) : SM := sEv B f fun d ρ ω => .rt d ω
theorem good_ret {bx : Option Addr} {O U : List Addr} {H : Hp} {ω : Om} {K : Fr} {mg : Mg} {ea : Option (Addr × Addr)} {σ : L2.St} {ρ : Sls} (st : StOk K mg bx ea O U H σ ρ) (g : Good bx (U ++ O) H ω) : Good bx O H ω := g.sub_ ends_app st.bxO
theorem ds_ret {B : List Nat} (he : DE X W ea e f) : DS X W ea (.Return (some e) pos) (sRet B f) := ps_weak (ps_ret he) fun D σ H h => by
  obtain ⟨bx, O, U, ω, ρ, st, g, h⟩ := h
  refine ev_go st g h fun d v ρ1 U1 ω1 H1 s1 u1 st1 g1 hv hf => ?_
  exact hf v H1 Stp.refl (good_ret st1 g1) (hv.mono ends_app)
def sRetN : SM := fun ρ ω => .rt .non ω
theorem ds_retN : DS X W ea (.Return none pos) sRetN := ps_weak ps_retN fun D σ H h => by
  obtain ⟨bx, O, U, ω, ρ, st, g, h⟩ := h
  exact h .non H Stp.refl (good_ret st g) .non
/-- x = e -/
def sAsg (B : List Nat) (f : Sls → M D) (bd : D → Option (List (Nat × D))) : SM := sEv B f fun d ρ ω => match (bd d).bind (setsS ρ) with
  | some ρ' => .nx ρ' ω
  | none => .bad
theorem asg_fin {K : Fr} {mg : Mg} {bx : Option Addr} {O U : List Addr} {H : Hp} {σ : L2.St} {ρ : Sls} {ω : Om} {D : Ends} {as : List (Nat × DL.D)} {avs : List (Nat × V)} {bd : Option (List (Nat × DL.D))} (st : StOk K mg bx ea O U H σ ρ) (g : Good bx (U ++ O) H ω) (hb : bd = some as) (ha : PairN K mg bx (U ++ O) H avs as)
    (h : Fin K mg W bx ea O U H D (match bd.bind (setsS ρ) with
      | some ρ' => .nx ρ' ω
      | none => .bad)) : D.nx (setsV σ avs) H := by
  subst hb
  rw [Option.bind_some] at h
  cases q : setsS ρ as with
  | none => rw [q] at h; exact h.elim
  | some ρ' =>
    rw [q] at h
    exact h _ H U Stp.refl (fun a z => .inl z) (st.sets ha q) g
theorem bd_some {K : Fr} {mg : Mg} {bx : Option Addr} {O U : List Addr} {H : Hp} {ρ : Sls} {ω : Om} {D : Ends} {bd : Option (List (Nat × DL.D))} (h : Fin K mg W bx ea O U H D (match bd.bind (setsS ρ) with
      | some ρ' => .nx ρ' ω
      | none => .bad)) : ∃ as, bd = some as := by
  cases bd with
  | none => exact h.elim
  | some as => exact ⟨as, rfl⟩
theorem ds_set {i : Nat} {x : Str} {pos' : Pos} {B : List Nat} (hN : X.N.Nodup) (hi : X.N[i]? = some x) (hx : Loc X.env.scope x) (he : DE X W ea e f) (hs : swapsWith e (some (.Name x pos')) pos.line X.env = pure false := by rfl)
    (hf : X.fn x = true ∨ X.env.scope.names.lookup x = some .local := by first | exact .inl rfl | exact .inr rfl) : DS X W ea (.Assign [.Name x pos'] e pos) (sAsg B f (tgN i)) := ps_weak (ps_set hN hi hx he hs hf) fun D σ H h => by
  obtain ⟨bx, O, U, ω, ρ, st, g, h⟩ := h
  refine ev_go st g h fun d v ρ1 U1 ω1 H1 s1 u1 st1 g1 hv hf => ?_
  exact asg_fin (as := [(i, d)]) (avs := [(i, v)]) st1 g1 rfl (.cons ⟨rfl, hv⟩ .nil) hf
theorem ds_asg {tg : Expr} {ts : List Nat} {bd : D → Option (List (Nat × D))} {B : List Nat} (he : DE X W ea e f) (hg : DG X ts tg bd) (hs : swapsWithSole [tg] e pos.line X.env = pure false := by rfl) (hw : swappedStores [tg] e X.env = pure none := by rfl)
    (h1 : (assignEach [tg] X.env).map (·.2) = [assign tg X.env] := by rfl) : DS X W ea (.Assign [tg] e pos) (sAsg B f bd) := by
  obtain ⟨_, g0, p0, k0⟩ := hg
  refine ps_weak (ps_asg he p0 hs hw h1) fun D σ H h => ?_
  obtain ⟨bx, O, U, ω, ρ, st, g, h⟩ := h
  refine ev_go st g h fun d v ρ1 U1 ω1 H1 s1 u1 st1 g1 hv hf => ?_
  obtain ⟨as, ea⟩ := bd_some hf
  exact k0 bx _ H1 v d σ as _ hv ea fun avs ha => asg_fin st1 g1 ea ha hf
/-- a, b = x, y -/
def sEvA (B : List Nat) (r : Sls → M (List D)) (k : List D → SM) : SM := fun ρ ω => match (r (vis B ρ)).run ω with
  | .ok ds ω' => if freeL ds then k ds ρ ω' else k ds (frz B ρ) ω'
  | .exc c fs ω' => .ex c fs (frz B ρ) ω'
  | .bad => .bad
theorem eva_go {K : Fr} {mg : Mg} {bx : Option Addr} {O U : List Addr} {H : Hp} {σ : L2.St} {ρ : Sls} {ω : Om} {Dd : Ends} {r : Sls → M (List D)} {B : List Nat} {k : List D → SM} {R : List V → Hp → Prop} (st : StOk K mg bx ea O U H σ ρ) (g : Good bx (U ++ O) H ω) (h : Fin K mg W bx ea O U H Dd (sEvA B r k ρ ω))
    (hk : ∀ ds vs ρ1 U1 ω1 H1, Stp bx U H H1 → (∀ a ∈ U1, a ∈ U) → StOk K mg bx ea O U1 H1 σ ρ1 → Good bx (U1 ++ O) H1 ω1 → DenL K mg bx (U1 ++ O) H1 vs ds → Fin K mg W bx ea O U1 H1 Dd (k ds ρ1 ω1) → R vs H1) : tA K mg W ea r σ H R := by
  obtain ⟨U1, hu, he, st1⟩ := st.split B
  have sub : ∀ a ∈ U1 ++ O, a ∈ U ++ O := fun a h => (List.mem_append.mp h).elim (fun z => List.mem_append_left _ (hu a z)) fun z => List.mem_append_right _ z
  have g1 : Good bx (U1 ++ O) H ω := g.sub_ sub (bx_app st)
  refine ⟨bx, U1 ++ O, ω, _, he, g1, ?_⟩
  unfold sEvA at h
  cases e : (r (vis B ρ)).run ω with
  | bad => rw [e] at h; exact h
  | exc c fs ω' =>
    rw [e] at h
    intro C dd gs H' m s' g' nd hdd hp
    exact h C dd gs σ H' U1 m (s'.wide fun c z => by cases z) (fun a z => .inl (hu a z)) (st1.step0 g1 s') g' nd hdd hp
  | ok d ω' =>
    rw [e] at h
    dsimp only at h
    intro v H' s' g' dn
    have sw : Stp bx U H H' := s'.wide fun c z => by cases z
    cases q : freeL d with
    | true =>
      rw [q, if_pos rfl] at h
      have gU := g.back g' s'
      exact hk d v ρ U ω' H' sw (fun a z => z) (st.step0 g s') gU (DenL.of_free gU.nt q dn) (h.later sw fun a z => .inl z)
    | false =>
      rw [q, if_neg (by decide)] at h
      exact hk d v _ U1 ω' H' sw hu (st1.step0 g1 s') g' dn (h.later sw fun a z => .inl (hu a z))
def sPar (B : List Nat) (r : Sls → M (List D)) (bd : List D → Option (List (Nat × D))) : SM := sEvA B r fun d ρ ω => match (bd d).bind (setsS ρ) with
  | some ρ' => .nx ρ' ω
  | none => .bad
def tg2 (i j : Nat) : List D → Option (List (Nat × D))
  | [x, y] => some [(i, x), (j, y)]
  | _ => none
def tg3 (i j l : Nat) : List D → Option (List (Nat × D))
  | [x, y, z] => some [(i, x), (j, y), (l, z)]
  | _ => none
theorem ds_par {i j : Nat} {x y : Str} {r : Sls → M (List D)} {B : List Nat} {px py pt : Pos} {kt k2 pt2} (hc : X.calm = true) (hN : X.N.Nodup) (hi : X.N[i]? = some x) (hj : X.N[j]? = some y) (hij : i ≠ j)
    (hx : X.env.scope.names.lookup x = some .local) (hy : X.env.scope.names.lookup y = some .local) (ha : DA X W ea [a, b] r)
    (hw : swappedStores [.Tuple [.Name x px, .Name y py] kt pt] (.Tuple [a, b] k2 pt2) X.env = pure (some [x, y]) := by rfl)
    (hs : swapsWithSole [.Tuple [.Name x px, .Name y py] kt pt] (.Tuple [a, b] k2 pt2) pos.line X.env = pure false := by rfl) :
    DS X W ea (.Assign [.Tuple [.Name x px, .Name y py] kt pt] (.Tuple [a, b] k2 pt2) pos) (sPar B r (tg2 i j)) := ps_weak (ps_par hc hN hi hj hij hx hy ha hw hs) fun D σ H h => by
  obtain ⟨bx, O, U, ω, ρ, st, g, h⟩ := h
  refine eva_go st g h fun ds vs ρ1 U1 ω1 H1 s1 u1 st1 g1 hv hf => ?_
  obtain ⟨as, e⟩ := bd_some hf
  have e2 := e
  unfold tg2 at e
  split at e
  · cases e
    obtain ⟨v, v', rfl, h1, h2⟩ := den2 hv
    exact ⟨v, v', rfl, asg_fin (avs := [(i, v), (j, v')]) st1 g1 e2 (.cons ⟨rfl, h1⟩ (.cons ⟨rfl, h2⟩ .nil)) hf⟩
  · cases e
theorem ds_par3 {i j l : Nat} {x y z : Str} {r : Sls → M (List D)} {B : List Nat} {px py pz pt : Pos} {kt k2 pt2} (hc : X.calm = true) (hN : X.N.Nodup) (hi : X.N[i]? = some x) (hj : X.N[j]? = some y) (hl : X.N[l]? = some z) (hij : i ≠ j) (hil : i ≠ l) (hjl : j ≠ l)
    (hx : X.env.scope.names.lookup x = some .local) (hy : X.env.scope.names.lookup y = some .local) (hz : X.env.scope.names.lookup z = some .local) (ha : DA X W ea [a, b, c] r)
    (hw : swappedStores [.Tuple [.Name x px, .Name y py, .Name z pz] kt pt] (.Tuple [a, b, c] k2 pt2) X.env = pure (some [x, y, z]) := by rfl)
    (hs : swapsWithSole [.Tuple [.Name x px, .Name y py, .Name z pz] kt pt] (.Tuple [a, b, c] k2 pt2) pos.line X.env = pure false := by rfl) :
    DS X W ea (.Assign [.Tuple [.Name x px, .Name y py, .Name z pz] kt pt] (.Tuple [a, b, c] k2 pt2) pos) (sPar B r (tg3 i j l)) := ps_weak (ps_par3 hc hN hi hj hl hij hil hjl hx hy hz ha hw hs) fun D σ H h => by
  obtain ⟨bx, O, U, ω, ρ, st, g, h⟩ := h
  refine eva_go st g h fun ds vs ρ1 U1 ω1 H1 s1 u1 st1 g1 hv hf => ?_
  obtain ⟨as, e⟩ := bd_some hf
  have e2 := e
  unfold tg3 at e
  split at e
  · cases e
    cases hv with
    | cons h1 hv =>
      cases hv with
      | cons h2 hv =>
        cases hv with
        | cons h3 hv =>
          cases hv
          exact ⟨_, _, _, rfl, asg_fin (avs := [(i, _), (j, _), (l, _)]) st1 g1 e2 (.cons ⟨rfl, h1⟩ (.cons ⟨rfl, h2⟩ (.cons ⟨rfl, h3⟩ .nil))) hf⟩
  · cases e

/-! ### if -/
def sIf (B : List Nat) (c : Sls → M Bool) (s t : SM) : SM := cEv B c fun b => if b then s else t
theorem ds_if {c : Expr} {cc : Sls → M Bool} {as bs : List Stmt} {B : List Nat} (hc : DT X W ea c cc) (ha : DSs X W ea as s) (hb : DSs X W ea bs t) : DS X W ea (.If c as bs pos) (sIf B cc s t) := ps_weak (ps_if hc ha hb) fun D σ H h => by
  obtain ⟨bx, O, U, ω, ρ, st, g, h⟩ := h
  refine cv_go st g h fun b ω1 H1 s1 st1 g1 hf => ?_
  cases b with
  | true => exact ⟨bx, O, U, ω1, ρ, st1, g1, hf⟩
  | false => exact ⟨bx, O, U, ω1, ρ, st1, g1, hf⟩

/-! ### own lists -/
def appK (i : Nat) : D → SM := fun y ρ ω => match ρ[i]? with
  | some (.own (.lst ds)) => if ds.length < 16000000 then .nx (ρ.set i (.own (.lst (ds ++ [y])))) ω else .bad
  | _ => .bad
/-- an own object is written -/
theorem StOk.put {K : Fr} {mg : Mg} {bx : Option Addr} {O U : List Addr} {H : Hp} {σ : L2.St} {ρ : Sls} {ω : Om} {i : Nat} {p : Addr} {o : HO} {d d' : D} (st : StOk K mg bx ea O U H σ ρ) (g : Good bx (U ++ O) H ω) (hi : ρ[i]? = some (.own d)) (ho : ∀ vs, o ≠ .tup vs) (hs : σ[i]? = some (some (.ref p)))
    (hv : OwnD K mg ea bx (U ++ O) (upd H p o) p d') : StOk K mg bx ea O U (upd H p o) σ (ρ.set i (.own d')) ∧ Good bx (U ++ O) (upd H p o) ω ∧ Stp bx U H (upd H p o) := by
  obtain ⟨p', h1, h2, h3⟩ := st.own i _ hi
  rw [hs] at h1
  cases h1
  have hp : p ∈ U ++ O := List.mem_append_left _ h2
  have nb : bx ≠ some p := fun z => st.dis p h2 (st.bxO p z)
  have ou : Out (U ++ O) H (upd H p o) := Out.upd hp
  have hl : i < ρ.length := (List.getElem?_eq_some_iff.mp hi).1
  have back : ∀ {j : Nat} {s : Sl}, (ρ.set i (.own d'))[j]? = some s → (j = i ∧ s = .own d') ∨ (i ≠ j ∧ ρ[j]? = some s) := fun {j s} h1 => by
    by_cases z : i = j
    · subst z
      rw [List.getElem?_set_self hl] at h1
      cases h1
      exact .inl ⟨rfl, rfl⟩
    · rw [List.getElem?_set_ne z] at h1
      exact .inr ⟨z, h1⟩
  have own0 : ∀ {j : Nat} {d1 : D}, (ρ.set i (.own d'))[j]? = some (.own d1) → ∃ d0, ρ[j]? = some (.own d0) := fun {j d1} h => by
    rcases back h with ⟨rfl, _⟩ | ⟨_, e⟩
    · exact ⟨_, hi⟩
    · exact ⟨_, e⟩
  refine ⟨⟨by rw [List.length_set, st.len], fun j d1 h => ?_, fun j d1 h => ?_, fun j k d1 d2 v e1 e2 e3 e4 => ?_, fun j fs h => ?_, st.dis, st.bxO⟩, g.upd hp nb ho, Stp.upd h2 nb⟩
  · rcases back h with ⟨rfl, e⟩ | ⟨z, e⟩
    · cases e
    · obtain ⟨v, h4, h5⟩ := st.val j d1 e
      exact ⟨v, h4, h5.step ou⟩
  · rcases back h with ⟨rfl, e⟩ | ⟨z, e⟩
    · cases e
      exact ⟨p, hs, h2, hv⟩
    · obtain ⟨q, h4, h5, h6⟩ := st.own j d1 e
      refine ⟨q, h4, h5, h6.step ou fun ob eo => ?_⟩
      rw [upd_ne (fun y => ?_)]
      · exact eo
      · subst y
        exact z (st.inj i j _ _ _ hi e hs h4)
  · obtain ⟨d0, h4⟩ := own0 e1
    obtain ⟨d1, h5⟩ := own0 e2
    exact st.inj j k d0 d1 v h4 h5 e3 e4
  · rcases back h with ⟨rfl, e⟩ | ⟨z, e⟩
    · cases e
    · obtain ⟨q, dd, gs, h4, h5, h6, h7, h8⟩ := st.exn j fs e
      exact ⟨q, dd, gs, h4, h5, h6, ou _ _ h7 h6, Paired.mapP h8 fun p q z => ⟨z.1, z.2.step ou⟩⟩
/-- an own list is written -/
theorem StOk.write {K : Fr} {mg : Mg} {bx : Option Addr} {O U : List Addr} {H : Hp} {σ : L2.St} {ρ : Sls} {ω : Om} {i : Nat} {p : Addr} {vs : List V} {ds ds' : List D} (st : StOk K mg bx ea O U H σ ρ) (g : Good bx (U ++ O) H ω) (hi : ρ[i]? = some (.own (.lst ds))) (hs : σ[i]? = some (some (.ref p)))
    (hv : DenL K mg bx (U ++ O) H vs ds') : StOk K mg bx ea O U (upd H p (.lst vs)) σ (ρ.set i (.own (.lst ds'))) ∧ Good bx (U ++ O) (upd H p (.lst vs)) ω ∧ Stp bx U H (upd H p (.lst vs)) := by
  obtain ⟨p', h1, h2, h3⟩ := st.own i _ hi
  rw [hs] at h1
  cases h1
  exact st.put g hi (fun _ z => by cases z) hs ⟨vs, upd_same, hv.step (Out.upd (List.mem_append_left _ h2))⟩
/-- x.append(e) -/
def sApp (i : Nat) (B : List Nat) (f : Sls → M D) : SM := fun ρ ω => match ρ[i]? with
  | some (.own (.lst _)) => sEv B f (appK i) ρ ω
  | _ => .bad
theorem ds_app {i : Nat} {x : Str} {px apos cpos : Pos} {B : List Nat} (hN : X.N[i]? = some x) (hv : Vis X.env.scope x) (he : DE X W ea e f) (hd : (x == ("__debug__" : Str)) = false := by decide) (hcd : (x == ("__classdict__" : Str)) = false := by decide)
    (hbase : attributeBase (.Name x px) "append" X.env (eval (.Name x px) X.env) = eval (.Name x px) X.env := by rfl)
    (hfew : ((backTo cpos (starEach [e] X.env)).all (fun x => !x.1) && (backToKw cpos (keywordEach [] X.env)).all (fun x => x.1.isSome)
      && decide ([e].length + ([] : List Keyword).length + (if ([] : List Keyword).isEmpty then 0 else 1) < 30)) = true := by rfl)
    (hline : (apos.endLine == cpos.line) = true := by rfl) (hst : starEach [e] X.env = (false, eval e X.env) :: starEach [] X.env := by rfl) (hplain : (backTo cpos (starEach [] X.env)).any (·.1) = false := by rfl)
    (hsw : swapsWith (.Call (.Attribute (.Name x px) "append" apos) [e] [] cpos) none pos.line X.env = pure false := by rfl) :
    DS X W ea (.Expr (.Call (.Attribute (.Name x px) "append" apos) [e] [] cpos) pos) (sApp i B f) := by
  refine ps_weak (ps_expr (pe_bm PySem.F.plainAttrs_list PySem.F.slot_list_append PySem.F.type_list_append mt_append (pe_var hN hv hd hcd) (pa_cons he pa_nil hst) hbase hfew hline hst hplain) hsw) fun D σ H h => ?_
  obtain ⟨bx, O, U, ω, ρ, st, g, h⟩ := h
  unfold sApp at h
  split at h
  · rename_i ds hi
    obtain ⟨p, hs, hp, vs, hH, hden⟩ := st.own i _ hi
    refine ⟨.ref p, hs, .inl ⟨rfl, vs, .of hH⟩, ?_⟩
    show tE X.K X.mg W ea f σ H _
    refine ev_go st g h fun d v ρ1 U1 ω1 H1 s1 u1 st1 g1 hdv hf => ?_
    unfold appK at hf
    split at hf
    · rename_i ds1 hi1
      obtain ⟨p1, hs1, hp1, vs1, hH1, hden1⟩ := st1.own i _ hi1
      rw [hs] at hs1
      cases hs1
      by_cases hl : ds1.length < 16000000
      · rw [if_pos hl] at hf
        obtain ⟨st2, g2, s2⟩ := st1.write g1 hi1 hs (hden1.append (.cons hdv .nil))
        exact ⟨p, vs1, v, rfl, rfl, hH1, by rw [hden1.length, sizeLine_eq]; omega, hf σ _ U1 s2 (fun a z => .inl z) st2 g2⟩
      · rw [if_neg hl] at hf; exact hf.elim
    · exact hf.elim
  · exact h.elim
/-- x.pop() -/
def sPop (i : Nat) : SM := fun ρ ω => match ρ[i]? with
  | some (.own (.lst ds)) => if ds = [] then .bad else .nx (ρ.set i (.own (.lst ds.dropLast))) ω
  | _ => .bad
end
end DL
end

section
set_option Elab.async false
set_option linter.all false
set_option maxRecDepth 100000
set_option maxHeartbeats 2000000
set_option autoImplicit false
/-! DL11: own lists made and stored into; while and for. -/
namespace DL
open PySem PySem.Spec PyProof.Rows L2

section
variable {X : Cx} {W : WX} {ea : Option (Addr × Addr)} {a b c e o : Expr} {es : List Expr} {f g k : Sls → M D} {pos : Pos} {st : Stmt} {rest : List Stmt} {s t : SM}

/-! ### new lists -/
def lsz (r : Sls → M (List D)) : Sls → M (List D) := fun ρ => r ρ >>= fun xs => ofOpt (if xs.length ≤ 16000000 then some xs else none)
theorem dn_lst {r : Sls → M (List D)} (h : DA X W ea es r) : DN X W ea (.List es pos) (lsz r) := pe_weak (pe_lst h) fun σ H Q h => by
  refine tG_bind h fun bx O ω ρ x d1 H1 he hg hx hr => ?_
  obtain ⟨d, eo, hr⟩ := retG_opt hr
  obtain ⟨hl, rfl⟩ := ite_some eo
  exact ⟨line16 (by rw [hx.length]; exact hl), fun p hp => hr x H1 Stp.refl hg hx p hp⟩
/-- list(e) -/
def lOf (f : Sls → M D) : Sls → M (List D) := fun ρ => f ρ >>= fun x => ofOpt (seqD x)
theorem dn_list {p : Pos} (hg : Gl X "list") (hm : X.mg "list" = none) (ha : DE X W ea e f) (he : starEach [e] X.env = (false, eval e X.env) :: starEach [] X.env := by rfl) : DN X W ea (.Call (.Name "list" p) [e] [] pos) (lOf f) := by
  refine pe_weak (pe_callTy call_list_of hg hm (by decide +kernel) (pa_cons ha pa_nil he) (by decide) (by decide) he rfl) fun σ H Q h => ?_
  refine tG_bind h fun bx O ω ρ x d1 H1 he hg hx hr => ?_
  obtain ⟨d, eo, hr⟩ := retG_opt hr
  cases d1 with
  | lst ds =>
    cases eo
    obtain ⟨q, vs, rfl, h1, h2, h3⟩ := den_lst hx
    exact ⟨q, vs, rfl, .inl (.of h2), fun l hl => hr vs H1 Stp.refl hg h3 l hl⟩
  | tup ds =>
    cases eo
    obtain ⟨q, vs, rfl, h2, h3⟩ := den_tup hx
    exact ⟨q, vs, rfl, .inr h2, fun l hl => hr vs H1 Stp.refl hg h3 l hl⟩
  | _ => cases eo
/-- list(range(..)) -/
def rgVs (a b : Int) : List D := (List.range (b - a).toNat).map fun i => D.int (a + (i : Nat))
/-- xs + ys, lists -/
def lCat (f g : Sls → M D) : Sls → M (List D) := fun ρ => f ρ >>= fun x => g ρ >>= fun y => ofOpt (match x, y with | .lst xs, .lst ys => if xs.length + ys.length ≤ 16000000 then some (xs ++ ys) else none | _, _ => none)
theorem dn_cat (ha : DE X W ea a f) (hb : DE X W ea b g) : DN X W ea (.BinOp a .Add b pos) (lCat f g) := pe_weak (pe_op op_cat ha hb) fun σ H Q h => by
  refine tG_bind h fun bx O ω ρ x d1 H1 he hg hx hr => ?_
  refine two_at (q := fun y => ofOpt (match d1, y with | .lst xs, .lst ys => if xs.length + ys.length ≤ 16000000 then some (xs ++ ys) else none | _, _ => none)) he hg hr fun d2 ω1 y H2 s2 o2 he2 g2 hy hr2 => ?_
  obtain ⟨d, eo, hr3⟩ := retG_opt hr2
  split at eo
  · obtain ⟨hl, rfl⟩ := ite_some eo
    obtain ⟨q, vs, rfl, h1, h2, h3⟩ := den_lst (hx.step o2)
    obtain ⟨q', vs', rfl, h1', h2', h3'⟩ := den_lst hy
    exact ⟨q, q', vs, vs', rfl, rfl, h2, h2', line16 (by rw [h3.length, h3'.length]; exact hl), fun l hl => hr3 _ H2 Stp.refl g2 (h3.append h3') l hl⟩
  · cases eo
/-- xs * n -/
def lRep (f g : Sls → M D) : Sls → M (List D) := fun ρ => f ρ >>= fun x => g ρ >>= fun y => ofOpt (match x, y with | .lst xs, .int k => if -(2 ^ 63) ≤ k ∧ k < 2 ^ 63 ∧ xs.length * k.toNat ≤ 16000000 then some (List.replicate k.toNat xs).flatten else none | _, _ => none)
theorem dn_rep (ha : DE X W ea a f) (hb : DE X W ea b g) : DN X W ea (.BinOp a .Mult b pos) (lRep f g) := pe_weak (pe_op op_rep ha hb) fun σ H Q h => by
  refine tG_bind h fun bx O ω ρ x d1 H1 he hg hx hr => ?_
  refine two_at (q := fun y => ofOpt (match d1, y with | .lst xs, .int k => if -(2 ^ 63) ≤ k ∧ k < 2 ^ 63 ∧ xs.length * k.toNat ≤ 16000000 then some (List.replicate k.toNat xs).flatten else none | _, _ => none)) he hg hr fun d2 ω1 y H2 s2 o2 he2 g2 hy hr2 => ?_
  obtain ⟨d, eo, hr3⟩ := retG_opt hr2
  split at eo
  · obtain ⟨⟨b1, b2, hl⟩, rfl⟩ := ite_some eo
    obtain ⟨q, vs, rfl, h1, h2, h3⟩ := den_lst (hx.step o2)
    cases hy
    exact ⟨q, _, vs, rfl, rfl, h2, b1, b2, line16 (by rw [h3.length]; exact hl), fun l hl => hr3 _ H2 Stp.refl g2 (h3.flat _) l hl⟩
  · cases eo
/-- xs[i:j] of a list -/
def lCut (f : Sls → M D) (l h : Sls → M (Option Int)) : Sls → M (List D) := fun ρ => f ρ >>= fun x => l ρ >>= fun lo => h ρ >>= fun hi => ofOpt (match x with | .lst xs => some (cutL xs lo hi) | .scr ns => some ((cutL ns lo hi).map D.int) | _ => none)
theorem dn_sl {lo hi : Option Expr} {l h : Sls → M (Option Int)} {p2 : Pos} (he : DE X W ea e f) (hl : DO X W ea lo l) (hh : DO X W ea hi h) : DN X W ea (.Subscript e (.Slice lo hi none p2) pos) (lCut f l h) := by
  refine pe_weak (pe_slice sl_list he hl hh) fun σ H Q hq => ?_
  refine tG_bind hq fun bx O ω ρ x d1 H1 he hg hx hr => ?_
  refine two_at he hg hr fun lo' ω1 l' H2 s2 o2 he2 g2 el hr2 => ?_
  cases el
  refine two_at he2 g2 hr2 fun hi' ω3 h' H3 s3 o3 he3 g3 eh hr3 => ?_
  cases eh
  obtain ⟨d, eo, hr4⟩ := retG_opt hr3
  have hx3 := (hx.step o2).step o3
  cases d1 with
  | lst ds =>
    cases eo
    obtain ⟨q, vs, rfl, h1, h2, h3⟩ := den_lst hx3
    exact ⟨q, vs, rfl, .of h2, fun l hl => hr4 _ H3 Stp.refl g3 (cutL_den h3 _ _) l hl⟩
  | scr ns =>
    cases hx3 with
    | scr ha hp =>
      cases eo
      exact ⟨_, _, rfl, .inl (.inr ⟨_, hp⟩), fun q hq => hr4 _ H3 Stp.refl g3 (by rw [cutV_eq, cutL_map]; exact denl_ints _) q hq⟩
    | kscr hp =>
      cases eo
      exact ⟨_, _, rfl, hp _, fun q hq => hr4 _ H3 Stp.refl g3 (by rw [cutV_eq, cutL_map]; exact denl_ints _) q hq⟩
  | _ => cases eo

/-- x = a new list, x's own -/
def newK (i : Nat) : List D → SM := fun ds ρ ω => if i < ρ.length then .nx (ρ.set i (.own (.lst ds))) ω else .bad
def sNew (i : Nat) (B : List Nat) (r : Sls → M (List D)) : SM := sEvA B r (newK i)
theorem StOk.newOwn {K : Fr} {mg : Mg} {bx : Option Addr} {O U : List Addr} {H : Hp} {σ : L2.St} {ρ : Sls} {ω : Om} {i : Nat} {p : Addr} {o : HO} {d : D} (st : StOk K mg bx ea O U H σ ρ) (g : Good bx (U ++ O) H ω) (hp : H p = none) (hi : i < ρ.length) (ho : ∀ vs, o ≠ .tup vs)
    (hd : OwnD K mg ea bx (p :: U ++ O) (upd H p o) p d) : StOk K mg bx ea O (p :: U) (upd H p o) (σ.set i (some (.ref p))) (ρ.set i (.own d)) ∧ Good bx (p :: U ++ O) (upd H p o) ω := by
  have mo : ∀ a ∈ p :: U ++ O, a ∈ U ++ O ∨ H a = none := fun a h => by
    rw [List.cons_append] at h
    exact (List.mem_cons.mp h).elim (fun z => .inr (by rw [z]; exact hp)) .inl
  have ou : Out (p :: U ++ O) H (upd H p o) := Out.new hp
  have hs : i < σ.length := by rw [st.len]; exact hi
  have back : ∀ {j : Nat} {s : Sl}, (ρ.set i (.own d))[j]? = some s → (j = i ∧ s = .own d) ∨ (i ≠ j ∧ ρ[j]? = some s) := fun {j s} h1 => by
    by_cases z : i = j
    · subst z
      rw [List.getElem?_set_self hi] at h1
      cases h1
      exact .inl ⟨rfl, rfl⟩
    · rw [List.getElem?_set_ne z] at h1
      exact .inr ⟨z, h1⟩
  have live : ∀ {a : Addr}, a ∈ U → a ≠ p := fun h z => by
    obtain ⟨o, e, _⟩ := g.nt _ (List.mem_append_left O h)
    rw [z, hp] at e; cases e
  refine ⟨⟨by rw [List.length_set, List.length_set, st.len], fun j d' h => ?_, fun j d' h => ?_, fun j k d1 d2 v e1 e2 e3 e4 => ?_, fun j fs h => ?_, fun a h => ?_, st.bxO⟩, ?_⟩
  · rcases back h with ⟨rfl, e⟩ | ⟨z, e⟩
    · cases e
    · obtain ⟨v, h4, h5⟩ := st.val j d' e
      exact ⟨v, by rw [List.getElem?_set_ne z]; exact h4, (h5.more mo).step ou⟩
  · rcases back h with ⟨rfl, e⟩ | ⟨z, e⟩
    · cases e
      exact ⟨p, by rw [List.getElem?_set_self hs], List.mem_cons_self, hd⟩
    · obtain ⟨q, h4, h5, h6⟩ := st.own j d' e
      exact ⟨q, by rw [List.getElem?_set_ne z]; exact h4, List.mem_cons_of_mem _ h5, (h6.more mo).step ou fun ob eo => by rw [upd_ne (live h5)]; exact eo⟩
  · rcases back e1 with ⟨rfl, _⟩ | ⟨z1, f1⟩
    · rcases back e2 with ⟨rfl, _⟩ | ⟨z2, f2⟩
      · rfl
      · rw [List.getElem?_set_self hs] at e3
        cases e3
        rw [List.getElem?_set_ne z2] at e4
        obtain ⟨q, h4, h5, h6⟩ := st.own k d2 f2
        rw [e4] at h4
        cases h4
        exact absurd rfl (live h5)
    · rcases back e2 with ⟨rfl, _⟩ | ⟨z2, f2⟩
      · rw [List.getElem?_set_self hs] at e4
        cases e4
        rw [List.getElem?_set_ne z1] at e3
        obtain ⟨q, h4, h5, h6⟩ := st.own j d1 f1
        rw [e3] at h4
        cases h4
        exact absurd rfl (live h5)
      · rw [List.getElem?_set_ne z1] at e3
        rw [List.getElem?_set_ne z2] at e4
        exact st.inj j k d1 d2 v f1 f2 e3 e4
  · rcases back h with ⟨rfl, e⟩ | ⟨z, e⟩
    · cases e
    · obtain ⟨q, dd, gs, h4, h5, h6, h7, h8⟩ := st.exn j fs e
      have nd : dd ∉ p :: U ++ O := fun y => (mo dd y).elim h6 fun n => by rw [h7] at n; cases n
      exact ⟨q, dd, gs, h4, by rw [List.getElem?_set_ne z]; exact h5, nd, ou _ _ h7 nd, Paired.mapP h8 fun p q z => ⟨z.1, (z.2.more mo).step ou⟩⟩
  · rcases List.mem_cons.mp h with z | z
    · intro y
      obtain ⟨o, e, _⟩ := g.nt _ (List.mem_append_right U y)
      rw [z, hp] at e; cases e
    · exact st.dis a z
  · rw [List.cons_append]
    exact g.moreN hp ho
theorem new_fin {K : Fr} {mg : Mg} {bx : Option Addr} {O U : List Addr} {H : Hp} {σ : L2.St} {ρ : Sls} {ω : Om} {D : Ends} {i : Nat} {ds : List DL.D} {vs : List V} (st : StOk K mg bx ea O U H σ ρ) (g : Good bx (U ++ O) H ω) (hv : DenL K mg bx (U ++ O) H vs ds) (h : Fin K mg W bx ea O U H D (newK i ds ρ ω)) :
    ∀ p, H p = none → D.nx (σ.set i (some (.ref p))) (upd H p (.lst vs)) := fun p hp => by
  unfold newK at h
  by_cases hi : i < ρ.length
  · rw [if_pos hi] at h
    have mo : ∀ a ∈ p :: U ++ O, a ∈ U ++ O ∨ H a = none := fun a h => by
      rw [List.cons_append] at h
      exact (List.mem_cons.mp h).elim (fun z => .inr (by rw [z]; exact hp)) .inl
    obtain ⟨st2, g2⟩ := st.newOwn (i := i) (d := .lst ds) (o := .lst vs) g hp hi (fun _ z => by cases z) ⟨vs, upd_same, (hv.more mo).step (Out.new hp)⟩
    exact h _ _ (p :: U) (Stp.of_out (Out.new hp)) (fun a z => (List.mem_cons.mp z).elim (fun y => .inr (by rw [y]; exact hp)) .inl) st2 g2
  · rw [if_neg hi] at h; exact h.elim
theorem ds_new {i : Nat} {x : Str} {pos' : Pos} {B : List Nat} {r : Sls → M (List D)} (hN : X.N.Nodup) (hi : X.N[i]? = some x) (hx : Loc X.env.scope x) (he : DN X W ea e r) (hs : swapsWith e (some (.Name x pos')) pos.line X.env = pure false := by rfl)
    (hf : X.fn x = true ∨ X.env.scope.names.lookup x = some .local := by first | exact .inl rfl | exact .inr rfl) : DS X W ea (.Assign [.Name x pos'] e pos) (sNew i B r) := ps_weak (ps_set hN hi hx he hs hf) fun D σ H h => by
  obtain ⟨bx, O, U, ω, ρ, st, g, h⟩ := h
  exact eva_go st g h fun ds vs ρ1 U1 ω1 H1 s1 u1 st1 g1 hv hf => new_fin st1 g1 hv hf
/-- x = [e for ..] on one line -/
theorem ds_setLc {i : Nat} {y : Str} {py : Pos} {elt tg iter : Expr} {ifs : List Expr} {scope : Scope} {own : List (Str × Nat)} {spos : Pos} {it : Sls → M (List D)} {gd : D → Option (List (Nat × D))} {c : Sls → M Bool} {f : Sls → M D} {B : List Nat} (hc : X.calm = true) (hN : X.N.Nodup) (hy : X.N[i]? = some y) (hyl : X.env.scope.names.lookup y = some .local)
    (hi : DI X W ea tg iter it) (ok : BlkOk X.N X.env.scope scope own)
    (hg : ∀ (s : Shared) (H : Hp) (C : Addr) (cl : List (Str × Addr)) (fp : List Addr), DG (X.blk s H scope (compEnvC scope cl C X.env) fp) (own.map (·.2)) tg gd)
    (ht : ∀ (s : Shared) (H : Hp) (C : Addr) (cl : List (Str × Addr)) (fp : List Addr), DTs (X.blk s H scope (compEnvC scope cl C X.env) fp) W0 ea ifs c)
    (he : ∀ (s : Shared) (H : Hp) (C : Addr) (cl : List (Str × Addr)) (fp : List Addr), DE (X.blk s H scope (compEnvC scope cl C X.env) fp) W0 ea elt f)
    (hsw : swapsWith (.ListComp elt [⟨tg, iter, ifs, 0⟩] scope pos) (some (.Name y py)) spos.line X.env = pure true) (hs : ∀ x, foldedSetIterable iter X.env x = pure x := by intro _; rfl) :
    DS X W ea (.Assign [.Name y py] (.ListComp elt [⟨tg, iter, ifs, 0⟩] scope pos) spos) (sNew i B (eLC it (own.map (·.2)) gd c f)) :=
  ps_weak (ps_setLc (g := gU X.K X.mg gd) (te := tE X.K X.mg W0 ea f) (tt := tT X.K X.mg W0 ea c) hc hN hy hyl hsw hi ok (fun s H C cl fp => pg_gU (hg s H C cl fp)) (fun s H C cl fp => ht s H C cl fp) (fun s H C cl fp => he s H C cl fp) hs)
    fun D σ H h => by
      obtain ⟨bx, O, U, ω, ρ, st, g, h⟩ := h
      have z : tN X.K X.mg W ea (eLC it (own.map (·.2)) gd c f) σ H (fun x H1 => gName i x σ H1 D.nx) := eva_go st g h fun ds vs ρ1 U1 ω1 H1 s1 u1 st1 g1 hv hf => new_fin st1 g1 hv hf
      exact lc_read (hg X.s_0 X.H_0 0 [] []).1 z
/-- x[i] = e, x an own list -/
def storeK (i : Nat) (y : D) (j : D) : SM := fun ρ ω => match ρ[i]?, j with
  | some (.own (.lst ds)), .int n => match ixN ds.length n with
    | some m => .nx (ρ.set i (.own (.lst (ds.set m y)))) ω
    | none => .bad
  | _, _ => .bad
/-- the value, then the index (a free one); no own list is given up for the index -/
def sStore (i : Nat) (B B2 : List Nat) (f : Sls → M D) (g : Sls → M D) : SM := fun ρ ω => match ρ[i]? with
  | some (.own (.lst _)) => sEv B f (fun y => sEv B2 g (storeK i y)) ρ ω
  | _ => .bad
theorem ds_store {i : Nat} {x : Str} {ix : Expr} {px pix : Pos} {B B2 : List Nat} (hN : X.N[i]? = some x) (hv : Vis X.env.scope x) (he : DE X W ea e f) (hix : DE X W ea ix g) (hd : (x == ("__debug__" : Str)) = false := by decide) (hcd : (x == ("__classdict__" : Str)) = false := by decide)
    (ha : ∀ v, assign (.Subscript (.Name x px) ix pix) X.env v = (do
      let ov ← holding [v] (eval (.Name x px) X.env)
      let iv ← holding [v, ov] (eval ix X.env)
      standAt pix
      holding [v, ov, iv] (setItem ov iv v)
      release [v, ov, iv] []) := by intro _; rfl)
    (hs : swapsWithSole [.Subscript (.Name x px) ix pix] e pos.line X.env = pure false := by rfl) (hw : swappedStores [.Subscript (.Name x px) ix pix] e X.env = pure none := by rfl)
    (h1 : (assignEach [.Subscript (.Name x px) ix pix] X.env).map (·.2) = [assign (.Subscript (.Name x px) ix pix) X.env] := by rfl) : DS X W ea (.Assign [.Subscript (.Name x px) ix pix] e pos) (sStore i B B2 f g) := by
  refine ps_weak (ps_asg he (pg_sub (pe_var hN hv hd hcd) hix set_list ha) hs hw h1) fun D σ H h => ?_
  obtain ⟨bx, O, U, ω, ρ, st, gd, h⟩ := h
  unfold sStore at h
  split at h
  · refine ev_go st gd h fun y v ρ1 U1 ω1 H1 s1 u1 st1 g1 hy hf => ?_
    -- x's address, whatever the slot says now
    rename_i ds hi
    obtain ⟨p, hsp, hp, vs, hH, hden⟩ := st.own i _ hi
    refine ⟨.ref p, hsp, ?_⟩
    -- the value again, behind the index
    have key : tE X.K X.mg W ea g σ H1 fun j H2 => rSetL (.ref p) j v H2 fun H3 => D.nx σ H3 := by
      obtain ⟨U2, hu2, he2, st2⟩ := st1.split B2
      have sub : ∀ a ∈ U2 ++ O, a ∈ U1 ++ O := fun a h => (List.mem_append.mp h).elim (fun z => List.mem_append_left _ (hu2 a z)) fun z => List.mem_append_right _ z
      have gg : Good bx (U2 ++ O) H1 ω1 := g1.sub_ sub (bx_app st1)
      refine ⟨bx, U2 ++ O, ω1, _, he2, gg, ?_⟩
      unfold sEv at hf
      cases eg : (g (vis B2 ρ1)).run ω1 with
      | bad => rw [eg] at hf; exact hf
      | exc c fs ω' =>
        rw [eg] at hf
        intro C dd gs H' m s' g' nd hdd hpd
        exact hf C dd gs σ H' U2 m (s'.wide fun c z => by cases z) (fun a z => .inl (hu2 a z)) (st2.step0 gg s') g' nd hdd hpd
      | ok j ω2 =>
        rw [eg] at hf
        dsimp only at hf
        intro jv H2 s2 g2 hj
        have sw : Stp bx U1 H1 H2 := s2.wide fun c z => by cases z
        -- the two ways
        have fin : ∀ (U3 : List Addr) (ρ3 : Sls), StOk X.K X.mg bx ea O U3 H2 σ ρ3 → Good bx (U3 ++ O) H2 ω2 → Den X.K X.mg bx (U3 ++ O) H2 v y → Den X.K X.mg bx (U3 ++ O) H2 jv j → Fin X.K X.mg W bx ea O U3 H2 D (storeK i y j ρ3 ω2) → rSetL (.ref p) jv v H2 fun H3 => D.nx σ H3 := fun U3 ρ3 st3 g3 hy3 hj3 hf3 => by
          unfold storeK at hf3
          split at hf3
          · rename_i ds3 n hi3
            obtain ⟨p3, hs3, hp3, vs3, hH3, hden3⟩ := st3.own i _ hi3
            rw [hsp] at hs3
            cases hs3
            cases hj3
            cases q : ixN ds3.length n with
            | none => rw [q] at hf3; exact hf3.elim
            | some m =>
              rw [q] at hf3
              obtain ⟨st4, g4, s4⟩ := st3.write g3 hi3 hsp (DenL.set hy3 m hden3)
              exact ⟨p, vs3, n, m, rfl, rfl, hH3, by rw [hden3.length]; exact q, hf3 σ _ U3 s4 (fun a z => .inl z) st4 g4⟩
          · exact hf3.elim
        cases q : j.free with
        | true =>
          rw [q, if_pos rfl] at hf
          have gU := g1.back g2 s2
          exact fin U1 ρ1 (st1.step0 g1 s2) gU (hy.step (s2.out0 g1)) (Den.of_free gU.nt q hj) (hf.later sw fun a z => .inl z)
        | false =>
          rw [q, if_neg (by decide)] at hf
          exact fin U2 _ (st2.step0 gg s2) g2 ((hy.mono sub).step (s2.out0 gg)) hj (hf.later sw fun a z => .inl (hu2 a z))
    exact key
  · exact h.elim
end
end DL
end

section
set_option Elab.async false
set_option linter.all false
set_option maxRecDepth 100000
set_option maxHeartbeats 2000000
set_option autoImplicit false
/-! DL12: while, for. -/
namespace DL
open PySem PySem.Spec PyProof.Rows L2

section
variable {X : Cx} {W : WX} {ea : Option (Addr × Addr)} {a b c e o : Expr} {es : List Expr} {f g k : Sls → M D} {pos : Pos} {st : Stmt} {rest : List Stmt} {s t : SM}

/-! ### while -/
def whileN (B : List Nat) (c : Sls → M Bool) (s : SM) : Nat → SM
  | 0 => fun _ _ => .bad
  | n + 1 => cEv B c fun b => if b then fun ρ ω => match s ρ ω with
      | .nx ρ' ω' => whileN B c s n ρ' ω'
      | .ct ρ' ω' => whileN B c s n ρ' ω'
      | .bk ρ' ω' => .nx ρ' ω'
      | r => r
    else sNil
theorem cEv_cong {B : List Nat} {c : Sls → M Bool} {k k' : Bool → SM} {ρ : Sls} {ω : Om} (h : ∀ b ρ ω, k b ρ ω ≠ .bad → k' b ρ ω = k b ρ ω) (n : cEv B c k ρ ω ≠ .bad) : cEv B c k' ρ ω = cEv B c k ρ ω := by
  unfold cEv at n ⊢
  cases e : (c (vis B ρ)).run ω with
  | ok b ω' => rw [e] at n; exact h b ρ ω' n
  | exc _ _ _ => rfl
  | bad => rfl
theorem whileN_succ (B : List Nat) (c : Sls → M Bool) (s : SM) : ∀ (n : Nat) (ρ : Sls) (ω : Om), whileN B c s n ρ ω ≠ .bad → whileN B c s (n + 1) ρ ω = whileN B c s n ρ ω
  | 0, ρ, ω, h => (h rfl).elim
  | n + 1, ρ, ω, h => by
    show cEv B c _ ρ ω = cEv B c _ ρ ω
    refine cEv_cong (fun b ρ' ω' hb => ?_) h
    cases b with
    | false => rfl
    | true =>
      rw [if_pos rfl] at hb ⊢
      rw [if_pos rfl]
      try dsimp only at hb ⊢
      cases e : s ρ' ω' with
      | nx ρ2 ω2 => rw [e] at hb; exact whileN_succ B c s n ρ2 ω2 hb
      | ct ρ2 ω2 => rw [e] at hb; exact whileN_succ B c s n ρ2 ω2 hb
      | _ => rfl
theorem whileN_more (B : List Nat) (c : Sls → M Bool) (s : SM) {n : Nat} (ρ : Sls) (ω : Om) (h : whileN B c s n ρ ω ≠ .bad) : ∀ m, whileN B c s (n + m) ρ ω = whileN B c s n ρ ω
  | 0 => rfl
  | m + 1 => by
    have e := whileN_more B c s ρ ω h m
    rw [← e, ← Nat.add_assoc]
    exact whileN_succ B c s (n + m) ρ ω (by rw [e]; exact h)
open Classical in
noncomputable def sWhile (B : List Nat) (c : Sls → M Bool) (s : SM) : SM := fun ρ ω => if h : ∃ n, whileN B c s n ρ ω ≠ .bad then whileN B c s (choose h) ρ ω else .bad
theorem sWhile_eq {B : List Nat} {c : Sls → M Bool} {s : SM} {n : Nat} {ρ : Sls} {ω : Om} {r : RS} (h : whileN B c s n ρ ω = r) (hr : r ≠ .bad) : sWhile B c s ρ ω = r := by
  have hx : ∃ n, whileN B c s n ρ ω ≠ .bad := ⟨n, by rw [h]; exact hr⟩
  unfold sWhile
  rw [dif_pos hx]
  have h1 := Classical.choose_spec hx
  rw [← whileN_more B c s ρ ω h1 n, Nat.add_comm, whileN_more B c s ρ ω (by rw [h]; exact hr) _, h]
/-- one turn -/
theorem sWhile_turn (B : List Nat) (c : Sls → M Bool) (s : SM) (ρ : Sls) (ω : Om) : sWhile B c s ρ ω = cEv B c (fun b => if b then fun ρ ω => match s ρ ω with
      | .nx ρ' ω' => sWhile B c s ρ' ω'
      | .ct ρ' ω' => sWhile B c s ρ' ω'
      | .bk ρ' ω' => .nx ρ' ω'
      | r => r
    else sNil) ρ ω := by
  have key : ∀ r, r ≠ .bad → cEv B c (fun b => if b then fun ρ ω => match s ρ ω with
      | .nx ρ' ω' => sWhile B c s ρ' ω'
      | .ct ρ' ω' => sWhile B c s ρ' ω'
      | .bk ρ' ω' => .nx ρ' ω'
      | r => r
    else sNil) ρ ω = r → ∃ n, whileN B c s n ρ ω = r := by
    intro r hr h
    unfold cEv at h
    have inst : ∀ {ρ' ω'}, sWhile B c s ρ' ω' = r → ∃ n, whileN B c s n ρ' ω' = r := fun {ρ' ω'} e => by
      unfold sWhile at e
      by_cases hx : ∃ n, whileN B c s n ρ' ω' ≠ .bad
      · rw [dif_pos hx] at e; exact ⟨_, e⟩
      · rw [dif_neg hx] at e; exact (hr e.symm).elim
    cases e : (c (vis B ρ)).run ω with
    | exc c' fs ω' => rw [e] at h; exact ⟨1, by show cEv B c _ ρ ω = r; unfold cEv; rw [e]; exact h⟩
    | bad => rw [e] at h; exact (hr h.symm).elim
    | ok b ω' =>
      rw [e] at h
      cases b with
      | false => exact ⟨1, by show cEv B c _ ρ ω = r; unfold cEv; rw [e]; exact h⟩
      | true =>
        try dsimp only at h
        rw [if_pos rfl] at h
        try dsimp only at h
        cases e2 : s ρ ω' with
        | nx ρ2 ω2 =>
          rw [e2] at h
          obtain ⟨n, hn⟩ := inst h
          refine ⟨n + 1, ?_⟩
          show cEv B c _ ρ ω = r
          unfold cEv
          rw [e]
          try dsimp only
          rw [if_pos rfl]
          try dsimp only
          rw [e2]
          exact hn
        | ct ρ2 ω2 =>
          rw [e2] at h
          obtain ⟨n, hn⟩ := inst h
          refine ⟨n + 1, ?_⟩
          show cEv B c _ ρ ω = r
          unfold cEv
          rw [e]
          try dsimp only
          rw [if_pos rfl]
          try dsimp only
          rw [e2]
          exact hn
        | _ =>
          rw [e2] at h
          refine ⟨1, ?_⟩
          show cEv B c _ ρ ω = r
          unfold cEv
          rw [e]
          try dsimp only
          rw [if_pos rfl]
          try dsimp only
          rw [e2]
          exact h
  by_cases hb : cEv B c (fun b => if b then fun ρ ω => match s ρ ω with
      | .nx ρ' ω' => sWhile B c s ρ' ω'
      | .ct ρ' ω' => sWhile B c s ρ' ω'
      | .bk ρ' ω' => .nx ρ' ω'
      | r => r
    else sNil) ρ ω = .bad
  · rw [hb]
    unfold sWhile
    by_cases hx : ∃ n, whileN B c s n ρ ω ≠ .bad
    · exfalso
      obtain ⟨n, hn⟩ := hx
      cases n with
      | zero => exact hn rfl
      | succ n =>
        refine hn ?_
        have hn2 : cEv B c (fun b => if b then fun ρ ω => match s ρ ω with
          | .nx ρ' ω' => whileN B c s n ρ' ω'
          | .ct ρ' ω' => whileN B c s n ρ' ω'
          | .bk ρ' ω' => .nx ρ' ω'
          | r => r
        else sNil) ρ ω ≠ .bad := hn
        have z := cEv_cong (k' := fun b => if b then fun ρ ω => match s ρ ω with
          | .nx ρ' ω' => sWhile B c s ρ' ω'
          | .ct ρ' ω' => sWhile B c s ρ' ω'
          | .bk ρ' ω' => .nx ρ' ω'
          | r => r
        else sNil) (fun b ρ' ω' hb' => by
          cases b with
          | false => rfl
          | true =>
            rw [if_pos rfl] at hb' ⊢
            rw [if_pos rfl]
            try dsimp only at hb' ⊢
            cases e : s ρ' ω' with
            | nx ρ2 ω2 => rw [e] at hb'; exact sWhile_eq rfl hb'
            | ct ρ2 ω2 => rw [e] at hb'; exact sWhile_eq rfl hb'
            | _ => rfl) hn2
        rw [hb] at z
        exact z.symm
    · rw [dif_neg hx]
  · obtain ⟨n, hn⟩ := key _ hb rfl
    exact sWhile_eq hn hb
theorem ds_while {c : Expr} {body : List Stmt} {cc : Sls → M Bool} {B : List Nat} (hp : PassesOwn (model X.prog X.w) X.A X.env X.xe) (hc : DT X W ea c cc) (hb : DSs X W ea body s) : DS X W ea (.While c body [] pos) (sWhile B cc s) := ps_weak (ps_while hp hc hb) fun D σ H h => by
  obtain ⟨bx, O, U, ω, ρ, st, g, h⟩ := h
  have start : ∃ n, Fin X.K X.mg W bx ea O U H D (whileN B cc s n ρ ω) := by
    unfold sWhile at h
    by_cases hx : ∃ n, whileN B cc s n ρ ω ≠ .bad
    · rw [dif_pos hx] at h; exact ⟨_, h⟩
    · rw [dif_neg hx] at h; exact h.elim
  obtain ⟨n, h⟩ := start
  refine ⟨fun m σ H => ∃ U ω ρ, StOk X.K X.mg bx ea O U H σ ρ ∧ Good bx (U ++ O) H ω ∧ Fin X.K X.mg W bx ea O U H D (whileN B cc s m ρ ω), ⟨n, U, ω, ρ, st, g, h⟩, ?_⟩
  rintro m σ H ⟨U, ω, ρ, st, g, h⟩
  cases m with
  | zero => exact h.elim
  | succ m =>
    refine cv_go st g h fun b ω1 H1 s1 st1 g1 hf => ?_
    cases b with
    | false =>
      show D.nx σ H1
      exact hf σ H1 U Stp.refl (fun a z => .inl z) st1 g1
    | true =>
      show ∃ N : L2.St → Hp → Prop, _
      refine ⟨fun σ' H' => ∃ U ω ρ, StOk X.K X.mg bx ea O U H' σ' ρ ∧ Good bx (U ++ O) H' ω ∧ Fin X.K X.mg W bx ea O U H' D (whileN B cc s m ρ ω), fun σ' H' z => ⟨m, Nat.lt_succ_self m, z⟩, ?_⟩
      refine ⟨bx, O, U, ω1, ρ, st1, g1, ?_⟩
      rw [if_pos rfl] at hf
      try dsimp only at hf
      cases e : s ρ ω1 with
      | nx ρ2 ω2 => rw [e] at hf; exact fun σ' H' U' s' u st' g' => ⟨U', ω2, ρ2, st', g', hf.later s' u⟩
      | ct ρ2 ω2 => rw [e] at hf; exact fun σ' H' U' s' u st' g' => ⟨U', ω2, ρ2, st', g', hf.later s' u⟩
      | bk ρ2 ω2 => rw [e] at hf; exact hf
      | rt d ω2 => rw [e] at hf; exact hf
      | ex c' fs ρ2 ω2 => rw [e] at hf; exact hf
      | bad => rw [e] at hf; exact hf

/-! ### for -/
def forS (bd : D → Option (List (Nat × D))) (s : SM) : List D → SM
  | [] => sNil
  | x :: xs => fun ρ ω => match (bd x).bind (setsS ρ) with
    | none => .bad
    | some ρ1 => match s ρ1 ω with
      | .nx ρ' ω' => forS bd s xs ρ' ω'
      | .ct ρ' ω' => forS bd s xs ρ' ω'
      | .bk ρ' ω' => .nx ρ' ω'
      | r => r
/-- the items are found while the own objects at B are seen, and these are given up -/
def sFor (B : List Nat) (it : Sls → M (List D)) (bd : D → Option (List (Nat × D))) (s : SM) : SM := fun ρ ω => match (it (vis B ρ)).run ω with
  | .ok xs ω' => forS bd s xs (frz B ρ) ω'
  | .exc c fs ω' => .ex c fs (frz B ρ) ω'
  | .bad => .bad
theorem for_go {K : Fr} {mg : Mg} {bx : Option Addr} {O : List Addr} {D : Ends} {bd : DL.D → Option (List (Nat × DL.D))} {gg : TG} (hg : ∀ (bx : Option Addr) (O : List Addr) (H : Hp) (v : V) (d : DL.D) (σ : L2.St) (as : List (Nat × DL.D)) (Q : L2.St → Hp → Prop), Den K mg bx O H v d → bd d = some as → (∀ avs, PairN K mg bx O H avs as → Q (setsV σ avs) H) → gg v σ H Q)
    {J : It} {xs : List DL.D} {P : List Addr → Hp → Prop} (hP : Itd K mg bx J xs P) {U : List Addr} {H : Hp} {σ : L2.St} {ρ : Sls} {ω : Om} (st : StOk K mg bx ea O U H σ ρ) (g : Good bx (U ++ O) H ω) (hp : P (U ++ O) H) (h : Fin K mg W bx ea O U H D (forS bd s xs ρ ω)) :
    ∃ V : Nat → Nat → L2.St → Hp → Prop, (∃ m, V 0 m σ H) ∧ ∀ i m σ H, V i m σ H → (J.stop i H ∧ D.nx σ H) ∨ (J.go i H ∧ ∃ N : L2.St → Hp → Prop, (∀ σ' H', N σ' H' → ∃ m', m' < m ∧ V (i + 1) m' σ' H') ∧ ∀ x H', J.yld i H x H' → gg x σ H' fun σ2 H2 => tS K mg W ea s { D with nx := N, ct := N, bk := D.nx } σ2 H2) := by
  refine ⟨fun i m σ H => m = xs.length - i ∧ i ≤ xs.length ∧ ∃ U ω ρ, StOk K mg bx ea O U H σ ρ ∧ Good bx (U ++ O) H ω ∧ P (U ++ O) H ∧ Fin K mg W bx ea O U H D (forS bd s (xs.drop i) ρ ω), ⟨xs.length, by simp, Nat.zero_le _, U, ω, ρ, st, g, hp, by rw [List.drop_zero]; exact h⟩, ?_⟩
  rintro i m σ H ⟨rfl, hi, U, ω, ρ, st, g, hp, h⟩
  by_cases hlt : i < xs.length
  · refine .inr ⟨hP.go i _ _ hp hlt, fun σ' H' => ∃ U ω ρ, StOk K mg bx ea O U H' σ' ρ ∧ Good bx (U ++ O) H' ω ∧ P (U ++ O) H' ∧ Fin K mg W bx ea O U H' D (forS bd s (xs.drop (i + 1)) ρ ω), fun σ' H' z => ⟨xs.length - (i + 1), by omega, rfl, hlt, z⟩, fun x H' y => ?_⟩
    obtain ⟨oy, d, ed, hd⟩ := hP.yld i _ _ x H' hp g.nt hlt y
    have e1 : xs.drop i = d :: xs.drop (i + 1) := by
      obtain ⟨hl, e2⟩ := List.getElem?_eq_some_iff.mp ed
      rw [← e2]
      exact List.drop_eq_getElem_cons hl
    rw [e1] at h
    have s1 : Stp bx [] H H' := Stp.of_out oy
    have sw : Stp bx U H H' := Stp.of_out oy
    have st1 := st.step0 g s1
    have g1 := g.out oy
    have hp1 := hP.step _ _ _ (oy.wide (O' := U ++ O) fun _ z => by cases z) hp
    have h1 := h.later (U1 := U) sw fun a z => .inl z
    have h2 : Fin K mg W bx ea O U H' D (match (bd d).bind (setsS ρ) with
      | none => .bad
      | some ρ1 => match s ρ1 ω with
        | .nx ρ' ω' => forS bd s (xs.drop (i + 1)) ρ' ω'
        | .ct ρ' ω' => forS bd s (xs.drop (i + 1)) ρ' ω'
        | .bk ρ' ω' => .nx ρ' ω'
        | r => r) := h1
    cases eb : bd d with
    | none => rw [eb] at h2; exact h2.elim
    | some as =>
      rw [eb, Option.bind_some] at h2
      cases es : setsS ρ as with
      | none => rw [es] at h2; exact h2.elim
      | some ρ1 =>
        rw [es] at h2
        try dsimp only at h2
        refine hg bx (U ++ O) H' x d σ as _ hd eb fun avs hav => ?_
        refine ⟨bx, O, U, ω, ρ1, st1.sets hav es, g1, ?_⟩
        have keep : ∀ {H2 : Hp} {U2 : List Addr}, Stp bx U H' H2 → (∀ a ∈ U2, a ∈ U ∨ H' a = none) → StOk K mg bx ea O U H' σ ρ → P (U2 ++ O) H2 := fun {H2 U2} s2 u2 st' => by
          have o2 : Out (U ++ O) H' H2 := s2.keep.wide fun a z => (List.mem_append.mp z).elim (fun y => List.mem_append_right _ (by
            cases bx with
            | none => cases y
            | some b =>
              have e : a = b := by simpa [bxl] using y
              rw [e]
              exact st'.bxO b rfl)) fun y => List.mem_append_left _ y
          refine hP.more (U ++ O ++ U2) _ _ (fun a z => .inl ?_) (hP.step _ _ _ (o2.wide fun a z => List.mem_append_left _ z) (hP.more (U ++ O) _ _ (fun a z => ?_) hp1))
          · rcases List.mem_append.mp z with z | z
            · exact List.mem_append_right _ z
            · exact List.mem_append_left _ (List.mem_append_right _ z)
          · rcases List.mem_append.mp z with z | z
            · exact .inl z
            · exact (u2 a z).imp (fun y => List.mem_append_left _ y) fun y => y
        cases e : s ρ1 ω with
        | nx ρ2 ω2 => rw [e] at h2; exact fun σ' H2 U' s' u st' g' => ⟨U', ω2, ρ2, st', g', keep s' u st1, h2.later s' u⟩
        | ct ρ2 ω2 => rw [e] at h2; exact fun σ' H2 U' s' u st' g' => ⟨U', ω2, ρ2, st', g', keep s' u st1, h2.later s' u⟩
        | bk ρ2 ω2 => rw [e] at h2; exact h2
        | rt d ω2 => rw [e] at h2; exact h2
        | ex c' fs ρ2 ω2 => rw [e] at h2; exact h2
        | bad => rw [e] at h2; exact h2
  · have e1 : xs.drop i = [] := List.drop_eq_nil_of_le (by omega)
    rw [e1] at h
    exact .inl ⟨hP.stop i _ _ hp (by omega), h σ H U Stp.refl (fun a z => .inl z) st g⟩
theorem ds_for {tg iter : Expr} {body : List Stmt} {it : Sls → M (List D)} {ts : List Nat} {bd : D → Option (List (Nat × D))} {B : List Nat} (hp : PassesOwn (model X.prog X.w) X.A X.env X.xe) (hc : X.calm = true) (hi : DI X W ea tg iter it) (hg : DG X ts tg bd) (hb : DSs X W ea body s)
    (hs : ∀ x, foldedSetIterable iter X.env x = pure x := by intro _; rfl) : DS X W ea (.For tg iter body [] pos) (sFor B it bd s) := by
  obtain ⟨_, g0, p0, k0⟩ := hg
  refine ps_weak (ps_for hp hc hi p0 hb hs) fun D σ H h => ?_
  obtain ⟨bx, O, U, ω, ρ, st, g, h⟩ := h
  obtain ⟨U1, hu, he, st1⟩ := st.split B
  have sub : ∀ a ∈ U1 ++ O, a ∈ U ++ O := fun a h => (List.mem_append.mp h).elim (fun z => List.mem_append_left _ (hu a z)) fun z => List.mem_append_right _ z
  have g1 : Good bx (U1 ++ O) H ω := g.sub_ sub (bx_app st)
  refine ⟨bx, U1 ++ O, ω, _, he, g1, ?_⟩
  unfold sFor at h
  cases e : (it (vis B ρ)).run ω with
  | bad => rw [e] at h; exact h
  | exc c fs ω' =>
    rw [e] at h
    intro C dd gs H' m s' g' nd hdd hpd
    exact h C dd gs σ H' U1 m (s'.wide fun c z => by cases z) (fun a z => .inl (hu a z)) (st1.step0 g1 s') g' nd hdd hpd
  | ok xs ω' =>
    rw [e] at h
    intro J H' s' g' hJ
    obtain ⟨P, hP, hP1⟩ := hJ
    exact for_go k0 hP (st1.step0 g1 s') g' hP1 (h.later (s'.wide fun c z => by cases z) fun a z => .inl (hu a z))
end
end DL
end

section
set_option Elab.async false
set_option linter.all false
set_option maxRecDepth 100000
set_option maxHeartbeats 2000000
set_option autoImplicit false
/-! DL13: defs and calls by deep values. -/
namespace DL
open PySem PySem.Spec PyProof.Rows L2

/-! ### a def's mirror -/
def startS (N : Nat) (ds : List D) : Sls := ds.map Sl.val ++ List.replicate (N - ds.length) .no
def bodyR : RS → Res D
  | .nx _ ω => .ok .non ω
  | .rt d ω => .ok d ω
  | .ex c fs _ ω => .exc c fs ω
  | _ => .bad
/-- n parameters, N names -/
def runB (n N : Nat) (s : SM) : List D → M D := fun ds => ⟨fun ω => if ds.length = n then bodyR (s (startS N ds) ω) else .bad⟩
/-- what a call is asked -/
def spD (K : Fr) (mg : Mg) (m : List D → M D) : Sp := fun vs H Q E => ∃ bx O ω ds, DenL K mg bx O H vs ds ∧ Good bx O H ω ∧ RetG K mg (fun cls d _ H => E cls d H) bx O [] H (relD K mg bx O) Q ((m ds).run ω)
theorem spD_len {K : Fr} {mg : Mg} {n N : Nat} {s : SM} {vs : List V} {H : Hp} {Q : VK} {E : XK} (h : spD K mg (runB n N s) vs H Q E) : vs.length = n := by
  obtain ⟨bx, O, ω, ds, hd, g, hr⟩ := h
  rw [hd.length]
  by_cases z : ds.length = n
  · exact z
  · have e : (runB n N s ds).run ω = .bad := if_neg z
    rw [e] at hr
    exact hr.elim
theorem startS_get {N : Nat} {ds : List D} {i : Nat} {s : Sl} (h : (startS N ds)[i]? = some s) : (∃ d, ds[i]? = some d ∧ s = .val d) ∨ s = .no := by
  unfold startS at h
  by_cases z : i < ds.length
  · rw [List.getElem?_append_left (by simpa using z), List.getElem?_map] at h
    obtain ⟨d, e1, rfl⟩ := Option.map_eq_some_iff.mp h
    exact .inl ⟨d, e1, rfl⟩
  · rw [List.getElem?_append_right (by simpa using z), List.getElem?_replicate] at h
    split at h
    · cases h; exact .inr rfl
    · cases h
theorem stOk_start {K : Fr} {mg : Mg} {bx : Option Addr} {O : List Addr} {H : Hp} {N : List Str} {vs : List V} {ds : List D} {ω : Om} (hd : DenL K mg bx O H vs ds) (g : Good bx O H ω) : StOk K mg bx none O [] H (L2.start N vs) (startS N.length ds) := by
  refine ⟨?_, fun i d h => ?_, fun i d h => ?_, fun i j d d' v h => ?_, fun i fs h => ?_, fun a z => (by cases z), fun b e => (g.bx b e).1⟩
  · unfold L2.start startS
    rw [List.length_append, List.length_append, List.length_map, List.length_map, List.length_replicate, List.length_replicate, hd.length]
  · rcases startS_get h with ⟨d', e1, e2⟩ | e
    · cases e2
      obtain ⟨v, h1, h2⟩ := hd.get e1
      refine ⟨v, ?_, by simpa using h2⟩
      have hi : i < vs.length := by rw [hd.length]; exact (List.getElem?_eq_some_iff.mp e1).1
      unfold L2.start
      rw [List.getElem?_append_left (by simpa using hi), List.getElem?_map, h1]
      rfl
    · cases e
  · rcases startS_get h with ⟨d', e1, e2⟩ | e
    · cases e2
    · cases e
  · rcases startS_get h with ⟨d', e1, e2⟩ | e
    · cases e2
    · cases e
  · rcases startS_get h with ⟨d', e1, e2⟩ | e
    · cases e2
    · cases e
/-- a def's end, by its mirror -/
theorem fin_ends {K : Fr} {mg : Mg} {bx : Option Addr} {O : List Addr} {H : Hp} {Q : VK} {E : XK} {r : RS} (h : RetG K mg (fun cls d _ H => E cls d H) bx O [] H (relD K mg bx O) Q (bodyR r)) :
    Fin K mg (fun cls d _ H => E cls d H) bx none O [] H { nx := fun _ H' => Q .non H', rt := Q } r := by
  cases r with
  | nx ρ' ω' => exact fun σ' H' U' s _ st g => h .non H' s (good_ret st g) .non
  | rt d ω' => exact fun v H' s g hv => h v H' s g hv
  | bk ρ' ω' => exact h.elim
  | ct ρ' ω' => exact h.elim
  | ex c fs ρ' ω' => exact fun C dd gs σ' H' U' m s _ st g nd e hp => h C dd gs H' m s (good_ret st g) (fun z => nd (List.mem_append_right _ z)) e (Paired.mapP hp fun p q z => ⟨z.1, z.2.mono ends_app⟩)
  | bad => exact h.elim
abbrev WEn (E : XK) : WX := fun cls d _ H => E cls d H
section
variable {P : Program} {w : World} {K : PySem.W.Frag} {mg : Mg} {base : Heap} {x qual : Str} {params : Arguments} {body : List Stmt} {scope : Scope} {dvs : List V} {kws : List (Str × V)} {f : Addr} {fd : FuncData}
theorem fn_mk {N ps : List Str} {k : Nat} {s : SM} (F : FunD K x qual params body scope dvs kws f fd) (S : FnScope N ps scope)
    (hb : ∀ (cdv : Value) (A : Around) (outer : List Env) (s0 : Shared) (H : Hp) (E : XK), Room k (A.deeper (envOfC qual scope s0.heap.objs.size f cdv)) → DSs (cxOf (L2N.CX P w) P w K mg base N qual scope f cdv A outer s0 H E) (WEn E) none body s) :
    FnOk P w K mg base (L2N.CX P w) (k + 1) f fd ps (spD K mg (runB ps.length N.length s)) := by
  refine F.ok S (fun vs H Q E h => spD_len h) fun cdv A outer s0 H vs Q E hr hsp => ⟨_, hb cdv A outer s0 H E hr, ?_⟩
  obtain ⟨bx, O, ω, ds, hd, g, hr2⟩ := hsp
  have hl : ds.length = ps.length := by
    by_cases z : ds.length = ps.length
    · exact z
    · have e : (runB ps.length N.length s ds).run ω = .bad := if_neg z
      rw [e] at hr2
      exact hr2.elim
  have e : (runB ps.length N.length s ds).run ω = bodyR (s (startS N.length ds) ω) := if_pos hl
  rw [e] at hr2
  exact ⟨bx, O, [], ω, _, stOk_start hd g, g, fin_ends hr2⟩
end
/-- x is a def of the mirror m, with no defaults -/
structure FnD (P : Program) (w : World) (K : PySem.W.Frag) (mg : Mg) (base : Heap) (k : Nat) (x : Str) (m : List D → M D) : Prop where
  ex : ∃ f fd ps, mg x = some (.ref f) ∧ PySem.W.keepIn K (.ref f) = true ∧ FnOk P w K mg base (L2N.CX P w) k f fd ps (spD K mg m) ∧ Binds K fd ps []
theorem FnD.mono {P : Program} {w : World} {K : PySem.W.Frag} {mg : Mg} {base : Heap} {j k : Nat} {x : Str} {m : List D → M D} (F : FnD P w K mg base j x m) (h : j ≤ k) : FnD P w K mg base k x m := by
  obtain ⟨f, fd, ps, h1, h2, h3, h4⟩ := F.ex
  exact ⟨f, fd, ps, h1, h2, h3.mono h, h4⟩
/-- the method m of the class c -/
structure MtD (P : Program) (w : World) (K : PySem.W.Frag) (mg : Mg) (base : Heap) (k : Nat) (c : Str) (nm : Str) (m : List D → M D) : Prop where
  ex : ∃ C f fd ps, mg c = some (.ref C) ∧ Cls K C ∧ Meth K C nm f ∧ FnOk P w K mg base (L2N.CX P w) k f fd ps (spD K mg m) ∧ Binds K fd ps []
theorem MtD.mono {P : Program} {w : World} {K : PySem.W.Frag} {mg : Mg} {base : Heap} {j k : Nat} {x nm : Str} {m : List D → M D} (F : MtD P w K mg base j x nm m) (h : j ≤ k) : MtD P w K mg base k x nm m := by
  obtain ⟨C, f, fd, ps, h1, h2, h3, h4, h5⟩ := F.ex
  exact ⟨C, f, fd, ps, h1, h2, h3, h4.mono h, h5⟩
section
variable {X : Cx} {W : WX} {ea : Option (Addr × Addr)} {a b c e o : Expr} {es : List Expr} {f g : Sls → M D} {r : Sls → M (List D)} {p pos apos : Pos} {k : Nat} {m : List D → M D}
def eCall (m : List D → M D) (r : Sls → M (List D)) : Sls → M D := fun ρ => r ρ >>= m
theorem de_call {x : Str} (F : FnD X.prog X.w X.K X.mg X.base k x m) (tk : L2N.Takes X W) (hr : Room k X.A) (hg : Gl X x) (ha : DA X W ea (e :: es) r) (hdb : (x == ("__debug__" : Str)) = false := by decide) (he : starEach (e :: es) X.env = (false, eval e X.env) :: starEach es X.env := by rfl)
    (hpl : (backTo pos (starEach es X.env)).any (·.1) = false := by rfl) : DE X W ea (.Call (.Name x p) (e :: es) [] pos) (eCall m r) := by
  obtain ⟨f, fd, ps, h1, h2, h3, h4⟩ := F.ex
  refine pe_weak (pe_callSD (E := WE W) h3 hr hg h1 h2 h4 .nil (fun σ => L2N.passAt tk σ) ha hdb he hpl) fun σ H Q h => ?_
  refine tG_bind h fun bx O ω ρ x d1 H1 he hg hx hr => ?_
  exact ⟨bx, O, ω, d1, by rw [List.append_nil]; exact hx, hg, hr⟩
/-- f() -/
theorem de_call0 {x : Str} (F : FnD X.prog X.w X.K X.mg X.base k x m) (tk : L2N.Takes X W) (hr : Room k X.A) (hg : Gl X x) (hdb : (x == ("__debug__" : Str)) = false := by decide) : DE X W ea (.Call (.Name x p) [] [] pos) (eCall m aNil) := by
  obtain ⟨f, fd, ps, h1, h2, h3, h4⟩ := F.ex
  refine ⟨fun pins s σ H Q I h => ?_⟩
  refine wpAny_Call_Name_kw (ld_glob I hg h1 ?_ hdb)
  refine PySem.W.callWith_K0 I.kIn h2 (run_fnSD (us := []) (vs := []) (E := WE W) h3 hr h4 .nil (L2N.passAt tk σ) I .nil ?_)
  obtain ⟨bx, O, ω, ρ, he, hg, hr⟩ := h
  exact ⟨bx, O, ω, [], .nil, hg, hr⟩
/-- o.m(e, ..) of an instance of the class c -/
def isObj (c : Str) (nm : Str) : D → Option Unit
  | .obj c' ns _ => if c' = c ∧ ns.contains nm = false then some () else none
  | _ => none
def eMeth (c nm : Str) (m : List D → M D) (f : Sls → M D) (r : Sls → M (List D)) : Sls → M D := fun ρ => f ρ >>= fun x => ofOpt (isObj c nm x) >>= fun _ => r ρ >>= fun xs => m (x :: xs)
theorem zip_none {nm : Str} : ∀ {ns : List Str} {vs : List V}, ns.contains nm = false → (ns.zip vs).lookup nm = none
  | [], _, _ => rfl
  | _ :: _, [], _ => rfl
  | n :: ns, v :: vs, h => by
    have h2 : (nm == n) = false ∧ ns.contains nm = false := by
      have h3 : (nm == n || ns.contains nm) = false := by rw [← List.contains_cons]; exact h
      exact Bool.or_eq_false_iff.mp h3
    show (match nm == n with | true => some v | false => (ns.zip vs).lookup nm) = none
    rw [h2.1]
    exact zip_none h2.2
theorem isObj_ok {K : Fr} {mg : Mg} {bx : Option Addr} {O : List Addr} {H : Hp} {v : V} {d : D} {c nm : Str} {C : Addr} (h : Den K mg bx O H v d) (hc : mg c = some (.ref C)) (e : isObj c nm d = some ()) : ∃ a dx fs, v = .ref a ∧ H a = some (.ins C dx fs) ∧ fs.lookup nm = none := by
  cases h with
  | obj ha hc' hh hl r =>
    obtain ⟨⟨rfl, h2⟩, _⟩ := ite_some e
    rw [hc] at hc'
    cases hc'
    exact ⟨_, _, _, rfl, hh, zip_none h2⟩
  | _ => cases e
theorem de_meth {cn nm : Str} {pl : Sem Bool} (F : MtD X.prog X.w X.K X.mg X.base k cn nm m) (tk : L2N.Takes X W) (hr : Room k X.A) (ho : DE X W ea o f) (ha : DA X W ea (e :: es) r)
    (hst : starEach (e :: es) X.env = (false, eval e X.env) :: starEach es X.env := by rfl) (hpl : (backTo pos (starEach es X.env)).any (·.1) = false := by rfl)
    (ht : eval (.Call (.Attribute o nm apos) (e :: es) [] pos) X.env = (do let ov ← eval o X.env; standAt apos.atName; let (f, first) ← holding [ov] (getMethod ov nm pl); callWith pos f first (backTo pos (starEach (e :: es) X.env)) (backToKw pos (keywordEach [] X.env))) := by rfl) :
    DE X W ea (.Call (.Attribute o nm apos) (e :: es) [] pos) (eMeth cn nm m f r) := by
  obtain ⟨C, f, fd, ps, h1, h0, h2, h3, h4⟩ := F.ex
  refine ⟨fun pins s σ H Q I h => ?_⟩
  have hgo := tG_bind (rel := relD X.K X.mg) (Q1 := fun x H1 => ∃ a dx fs, x = .ref a ∧ H1 a = some (.ins C dx fs) ∧ fs.lookup nm = none ∧ tA X.K X.mg W ea r σ H1 fun vs H2 => spD X.K X.mg m (x :: vs) H2 Q (WE W σ)) h fun bx O ω ρ x d1 H1 he hg hx hr => ?_
  · refine PySem.W.methodCall_KW (pl := pl) (thn (ho.run pins s σ H _ I hgo) fun u s1 ⟨x, H1, I1, rx, a, dx, fs, ex, ea, l, q⟩ => ?_) ht
    subst ex
    obtain rfl : u = Value.ref a := rx
    refine getmeth_ok I1 ea h0 h2 l ?_
    refine PySem.W.callWith_K (first := [.ref a]) (h₀ := X.base) I.ok.mod.kin h2.kp (thn (ha.run pos pins s1 σ H1 _ I1 q) fun us s2 ⟨vs, H2, I2, r, q2⟩ => ⟨I2.kIn, ?_⟩) hst hpl
    exact run_fnSD (us := .ref a :: us) (vs := .ref a :: vs) (E := WE W) h3 hr h4 .nil (L2N.passAt tk σ) I2 (.cons rfl r) (by rw [List.append_nil]; exact q2)
  · rw [M.bind_run] at hr
    cases q : isObj cn nm d1 with
    | none => rw [q] at hr; exact hr.elim
    | some _ =>
      rw [q] at hr
      obtain ⟨a, dx, fs, e1, e2, e3⟩ := isObj_ok hx h1 q
      refine ⟨a, dx, fs, e1, e2, e3, ?_⟩
      have hr' : RetG X.K X.mg W bx O σ H1 (relD X.K X.mg bx O) Q ((r ρ >>= fun xs => m (d1 :: xs)).run ω) := hr
      have h2 : tG X.K X.mg W ea (relD X.K X.mg) (fun ρ => r ρ >>= fun xs => m (d1 :: xs)) σ H1 Q := ⟨bx, O, ω, ρ, he, hg, hr'⟩
      refine ⟨bx, O, ω, ρ, he, hg, ?_⟩
      rw [M.bind_run] at hr'
      cases e : (r ρ).run ω with
      | ok ds ω1 =>
        rw [e] at hr'
        intro vs H2 s2 g2 hv
        exact ⟨bx, O, ω1, d1 :: ds, .cons (hx.step (s2.out0 hg)) hv, g2, RetG.later hr' s2⟩
      | exc c fs ω1 => rw [e] at hr'; exact hr'
      | bad => rw [e] at hr'; exact hr'
end
end DL
end

section
set_option Elab.async false
set_option linter.all false
set_option maxRecDepth 100000
set_option maxHeartbeats 2000000
set_option autoImplicit false
/-! DL14: instances: their fields set, their making, by deep values. -/
namespace DL
open PySem PySem.Spec PyProof.Rows L2

/-! ### self.f = e -/
def putK (T : Tbl) (i : Nat) (n : Str) : D → SM := fun y ρ ω => match ρ[i]? with
  | some (.own (.obj c ns ds)) => match T.lookup c with
    | some fs => if fs.contains n = true ∧ ns.contains n = false ∧ ns.length < 900 then .nx (ρ.set i (.own (.obj c (ns ++ [n]) (ds ++ [y])))) ω else .bad
    | none => .bad
  | _ => .bad
def sPut (T : Tbl) (i : Nat) (n : Str) (B : List Nat) (f : Sls → M D) : SM := sEv B f (putK T i n)
theorem putF_zip {n : Str} {y : V} : ∀ {ns : List Str} {vs : List V}, ns.length = vs.length → ns.contains n = false → putF n y (ns.zip vs) = (ns ++ [n]).zip (vs ++ [y])
  | [], [], _, _ => rfl
  | m :: ns, v :: vs, h, hn => by
    have h3 : (n == m || ns.contains n) = false := by rw [← List.contains_cons]; exact hn
    obtain ⟨h4, h5⟩ := Bool.or_eq_false_iff.mp h3
    have h6 : m ≠ n := fun z => by rw [z] at h4; simp at h4
    show (if m = n then _ else (m, v) :: putF n y (ns.zip vs)) = _
    rw [if_neg h6, putF_zip (by simpa using h) h5]
    rfl
theorem not_nm {n : Str} {ns : List Str} {vs : List V} : (ns.zip vs).length ≤ ns.length := by rw [List.length_zip]; omega
section
variable {X : Cx} {W : WX} {ea : Option (Addr × Addr)} {a b c e o : Expr} {es : List Expr} {f g : Sls → M D} {r : Sls → M (List D)} {p pos apos pos' : Pos} {k : Nat} {m : List D → M D}
theorem ds_put {T : Tbl} (CT : CFs X.K X.mg T) {i : Nat} {x n : Str} {B : List Nat} (hN : X.N[i]? = some x) (he : DE X W ea e f) (hv : Vis X.env.scope x := by first | exact Or.inl rfl | exact Or.inr (Or.inl rfl) | exact Or.inr (Or.inr rfl)) (hd : (x == ("__debug__" : Str)) = false := by decide)
    (hcd : (x == ("__classdict__" : Str)) = false := by decide) (hs : swapsWith e (some (.Attribute (.Name x p) n pos')) pos.line X.env = pure false := by rfl) : DS X W ea (.Assign [.Attribute (.Name x p) n pos'] e pos) (sPut T i n B f) := by
  refine ps_weak (ps_fld (pe_var hN hv hd hcd) he hs) fun D σ H h => ?_
  obtain ⟨bx, O, U, ω, ρ, st, g, h⟩ := h
  refine ev_go st g h fun d v ρ1 U1 ω1 H1 s1 u1 st1 g1 hdv hf => ?_
  unfold putK at hf
  split at hf
  · rename_i c ns ds hi
    split at hf
    · rename_i fs hT
      by_cases z : fs.contains n = true ∧ ns.contains n = false ∧ ns.length < 900
      · rw [if_pos z] at hf
        obtain ⟨z1, z2, z3⟩ := z
        obtain ⟨q, hs, hq, hz, C, dx, vs, hc, hH, hl, hden⟩ := st1.own i _ hi
        obtain ⟨C', hC, F⟩ := CT.at_ c fs hT
        rw [hc] at hC
        cases hC
        have hlen : (ns.zip vs).length < 1000 := by rw [List.length_zip]; omega
        have hq' : q ∈ U1 ++ O := List.mem_append_left _ hq
        obtain ⟨st2, g2, s2⟩ := st1.put (o := .ins C dx (putF n v (ns.zip vs))) (d' := .obj c (ns ++ [n]) (ds ++ [d])) g1 hi (fun _ z => by cases z) hs
          ⟨hz, C, dx, vs ++ [v], hc, by rw [upd_same, putF_zip hl z2], by simp [hl], (hden.append (.cons hdv .nil)).step (Out.upd hq')⟩
        exact ⟨.ref q, hs, q, C, dx, ns.zip vs, rfl, hH, F.cl, F.na n (List.contains_iff_mem.mp z1), hlen, hf σ _ U1 s2 (fun a z => .inl z) st2 g2⟩
      · rw [if_neg z] at hf; exact hf.elim
    · exact hf.elim
  · exact hf.elim
end

/-! ### __init__ -/
def initR : RS → Res D
  | .nx ρ ω => match (ρ[0]? : Option Sl) with
    | some (.own (.obj c ns ds)) => .ok (.obj c ns ds) ω
    | _ => .bad
  | .ex c fs _ ω => .exc c fs ω
  | _ => .bad
/-- n parameters behind self, N names -/
def runI (c : Str) (n N : Nat) (s : SM) : List D → M D := fun ds => ⟨fun ω => if ds.length = n then initR (s (.own (.obj c [] []) :: startS (N - 1) ds) ω) else .bad⟩
def spI (K : Fr) (mg : Mg) (c : Str) (m : List D → M D) : Sp := fun vs H Q E => ∃ x dx C us bx O ω ds, vs = .ref x :: us ∧ mg c = some (.ref C) ∧ H x = some (.ins C dx []) ∧ x ∉ O ∧ DenL K mg bx (x :: O) H us ds ∧ Good bx (x :: O) H ω ∧ (∀ b, bx = some b → b ∈ O) ∧
  match (m ds).run ω with
  | .ok d ω' => ∀ H', Stp bx [x] H H' → Good bx O H' ω' → Den K mg bx O H' (.ref x) d → Q .non H'
  | .exc c fs ω' => ∀ C dd gs H', mg c = some (.ref C) → Stp bx [x] H H' → Good bx O H' ω' → dd ∉ O → H' dd = some (.xd gs) → Paired (fun (p : Str × V) (q : Str × D) => p.1 = q.1 ∧ Den K mg bx O H' p.2 q.2) gs fs → E (.ref C) (some dd) H'
  | .bad => False
theorem spI_len {K : Fr} {mg : Mg} {c : Str} {n N : Nat} {s : SM} {vs : List V} {H : Hp} {Q : VK} {E : XK} (h : spI K mg c (runI c n N s) vs H Q E) : vs.length = n + 1 := by
  obtain ⟨x, dx, C, us, bx, O, ω, ds, e, _, _, _, hd, _, _, hr⟩ := h
  rw [e, List.length_cons, hd.length]
  by_cases z : ds.length = n
  · rw [z]
  · have e : (runI c n N s ds).run ω = .bad := if_neg z
    rw [e] at hr
    exact hr.elim
theorem stOk_self {K : Fr} {mg : Mg} {bx : Option Addr} {O : List Addr} {H : Hp} {c : Str} {C x dx : Addr} {N : List Str} {us : List V} {ds : List D} (hN : 0 < N.length) (hc : mg c = some (.ref C)) (hx : H x = some (.ins C dx [])) (nx : x ∉ O) (hd : DenL K mg bx (x :: O) H us ds) (hb : ∀ b, bx = some b → b ∈ O) :
    StOk K mg bx (some (x, x)) O [x] H (L2.start N (.ref x :: us)) (.own (.obj c [] []) :: startS (N.length - 1) ds) := by
  have get0 : ∀ {i : Nat} {s : Sl}, (Sl.own (.obj c [] []) :: startS (N.length - 1) ds)[i]? = some s → (i = 0 ∧ s = .own (.obj c [] [])) ∨ ∃ j, i = j + 1 ∧ (startS (N.length - 1) ds)[j]? = some s := fun {i s} h => by
    cases i with
    | zero => cases h; exact .inl ⟨rfl, rfl⟩
    | succ j => exact .inr ⟨j, rfl, h⟩
  have s0 : ∀ j, (L2.start N (.ref x :: us))[j + 1]? = (us.map some ++ List.replicate (N.length - (us.length + 1)) none)[j]? := fun j => rfl
  refine ⟨?_, fun i d h => ?_, fun i d h => ?_, fun i j d d' v h h' => ?_, fun i fs h => ?_, fun a z => ?_, hb⟩
  · unfold L2.start startS
    simp only [List.length_append, List.length_map, List.length_cons, List.length_replicate, hd.length]
    omega
  · rcases get0 h with ⟨_, e⟩ | ⟨j, rfl, e⟩
    · cases e
    · rcases startS_get e with ⟨d', e1, e2⟩ | e
      · cases e2
        obtain ⟨v, h1, h2⟩ := hd.get e1
        refine ⟨v, ?_, by simpa using h2⟩
        have hi : j < us.length := by rw [hd.length]; exact (List.getElem?_eq_some_iff.mp e1).1
        rw [s0, List.getElem?_append_left (by simpa using hi), List.getElem?_map, h1]
        rfl
      · cases e
  · rcases get0 h with ⟨rfl, e⟩ | ⟨j, rfl, e⟩
    · cases e
      exact ⟨x, rfl, by simp, ⟨x, rfl⟩, C, dx, [], hc, hx, rfl, .nil⟩
    · rcases startS_get e with ⟨d', e1, e2⟩ | e
      · cases e2
      · cases e
  · rcases get0 h with ⟨rfl, e⟩ | ⟨j', rfl, e⟩
    · rcases get0 h' with ⟨rfl, e⟩ | ⟨j', rfl, e⟩
      · intro _ _; rfl
      · rcases startS_get e with ⟨d', e1, e2⟩ | e
        · cases e2
        · cases e
    · rcases startS_get e with ⟨d', e1, e2⟩ | e
      · cases e2
      · cases e
  · rcases get0 h with ⟨_, e⟩ | ⟨j, rfl, e⟩
    · cases e
    · rcases startS_get e with ⟨d', e1, e2⟩ | e
      · cases e2
      · cases e
  · have e : a = x := by simpa using z
    rw [e]; exact nx
section
variable {P : Program} {w : World} {K : PySem.W.Frag} {mg : Mg} {base : Heap} {x qual : Str} {params : Arguments} {body : List Stmt} {scope : Scope} {dvs : List V} {kws : List (Str × V)} {f : Addr} {fd : FuncData}
theorem init_mk {c : Str} {N ps : List Str} {k n : Nat} {s : SM} (F : FunD K x qual params body scope dvs kws f fd) (S : FnScope N ps scope) (hn : ps.length = n + 1) (hN : 0 < N.length)
    (hb : ∀ (cdv : Value) (A : Around) (outer : List Env) (s0 : Shared) (H : Hp) (E : XK) (z : Addr), Room k (A.deeper (envOfC qual scope s0.heap.objs.size f cdv)) → DSs (cxOf (L2N.CX P w) P w K mg base N qual scope f cdv A outer s0 H E) (WEn E) (some (z, z)) body s) :
    FnOk P w K mg base (L2N.CX P w) (k + 1) f fd ps (spI K mg c (runI c n N.length s)) := by
  refine F.ok S (fun vs H Q E h => (spI_len h).trans hn.symm) fun cdv A outer s0 H vs Q E hr hsp => ?_
  obtain ⟨x, dx, C, us, bx, O, ω, ds, rfl, hc, hx, nx, hd, g, hbx, hr2⟩ := hsp
  refine ⟨_, hb cdv A outer s0 H E x hr, ?_⟩
  have hl : ds.length = n := by
    by_cases z : ds.length = n
    · exact z
    · have e : (runI c n N.length s ds).run ω = .bad := if_neg z
      rw [e] at hr2
      exact hr2.elim
  have e : (runI c n N.length s ds).run ω = initR (s (.own (.obj c [] []) :: startS (N.length - 1) ds) ω) := if_pos hl
  rw [e] at hr2
  refine ⟨bx, O, [x], ω, _, stOk_self hN hc hx nx hd hbx, g, ?_⟩
  cases q : s (.own (.obj c [] []) :: startS (N.length - 1) ds) ω with
  | nx ρ' ω' =>
    rw [q] at hr2
    intro σ' H' U' s' u st g'
    unfold initR at hr2
    dsimp only at hr2
    cases q0 : ρ'[0]? with
    | none => rw [q0] at hr2; exact hr2.elim
    | some sl =>
      rw [q0] at hr2
      cases sl with
      | own d =>
        cases d with
        | obj c' ns' ds' =>
          obtain ⟨a, h1, h2, ho⟩ := st.own 0 _ q0
          obtain ⟨z, ez⟩ := ho.1
          cases ez
          exact hr2 H' s' (good_ret st g') (ho.den ends_app (st.dis _ h2))
        | _ => exact hr2.elim
      | _ => exact hr2.elim
  | rt d ω' => rw [q] at hr2; exact hr2.elim
  | bk ρ' ω' => rw [q] at hr2; exact hr2.elim
  | ct ρ' ω' => rw [q] at hr2; exact hr2.elim
  | ex c fs ρ' ω' =>
    rw [q] at hr2
    exact fun C dd gs σ' H' U' m s' _ st g' nd e hp => hr2 C dd gs H' m s' (good_ret st g') (fun z => nd (List.mem_append_right _ z)) e (Paired.mapP hp fun p q z => ⟨z.1, z.2.mono ends_app⟩)
  | bad => rw [q] at hr2; exact hr2.elim
end
/-- c is a class of instances, made by the mirror m -/
structure MkD (P : Program) (w : World) (K : PySem.W.Frag) (mg : Mg) (base : Heap) (k : Nat) (c : Str) (m : List D → M D) : Prop where
  ex : ∃ C f fd ps, mg c = some (.ref C) ∧ Mk K C f ∧ FnOk P w K mg base (L2N.CX P w) k f fd ps (spI K mg c m) ∧ Binds K fd ps []
theorem run_makeS {X : Cx} {CX : CXT} {k : Nat} {f C : Addr} {fd : FuncData} {ps : List Str} {sp : Sp} {E : L2.St → XK} {pins : List (Addr × Obj)} {σ : L2.St} {H : Hp} {s : Shared} {Q : VK} {us : List Value} {vs : List V} (M : Mk X.K C f) (F : FnOk X.prog X.w X.K X.mg X.base CX k f fd ps sp) (hr : Room (k + 1) X.A) (hb : Binds X.K fd ps [])
    (hx : PassesAt CX X σ (E σ)) (I : Inv X pins σ H s) (r : Vals vs us)
    (h : ∀ x dx, H x = none → H dx = none → dx ≠ x → sp (.ref x :: vs) (upd (upd H dx (.own x)) x (.ins C dx [])) (fun v H2 => v = .non ∧ Q (.ref x) H2) (E σ)) :
    wpAny (model X.prog X.w) X.A (call (.ref C) us) (EP X pins σ Q) X.xe s := by
  have hq := h (s.heap.objs.size + 1) s.heap.objs.size (I.hok.fresh (Nat.le_succ _)) (I.hok.fresh (Nat.le_refl _)) (Nat.ne_of_lt (Nat.lt_succ_self _))
  have I2 := Inv.made (C := C) I
  have r2 : Vals (V.ref (s.heap.objs.size + 1) :: vs) (Value.ref (s.heap.objs.size + 1) :: us) := .cons rfl r
  have hl : ((Value.ref (s.heap.objs.size + 1) :: us) ++ []).length = ps.length := by
    have e := r2.length
    rw [F.len _ _ _ _ hq] at e
    rw [List.append_nil]
    exact e.symm
  have hbb := hb _ (Value.ref (s.heap.objs.size + 1) :: us) I2.kIn hl
  rw [List.append_nil] at hbb
  refine wpAny_call (make_map (f := f) I.kIn M.makes M.init (beq_iff_eq.mp M.fn) (codeAny_mono (F.run _ X.stack _ _ ⟨Value.ref (s.heap.objs.size + 1) :: us, []⟩ (Value.ref (s.heap.objs.size + 1) :: us) _ _ (E σ) (hr.make C us []) (I2.env0.make C us []) hbb r2 hq) fun r s' hq' => ?_))
  cases r with
  | error e => exact hx pins _ _ e s' I2 hq'
  | ok fl =>
    cases fl with
    | ret u =>
      obtain ⟨v, H', I3, rv, ev, q3⟩ := I2.after hq'
      subst ev
      exact ⟨rv, ⟨V.ref (s.heap.objs.size + 1), H', I3, rfl, q3⟩⟩
    | next => exact False.elim hq'
    | brk => exact False.elim hq'
    | cont => exact False.elim hq'
section
variable {X : Cx} {W : WX} {ea : Option (Addr × Addr)} {a b e o : Expr} {es : List Expr} {f g : Sls → M D} {r : Sls → M (List D)} {p pos apos pos' : Pos} {k : Nat} {m : List D → M D}
theorem make_sp {c : Str} {C : Addr} {bx : Option Addr} {O : List Addr} {σ : L2.St} {H : Hp} {ω : Om} {Q : VK} {us : List V} {ds : List D} (hc : X.mg c = some (.ref C)) (hd : DenL X.K X.mg bx O H us ds) (g : Good bx O H ω) (hr : RetG X.K X.mg W bx O σ H (relD X.K X.mg bx O) Q ((m ds).run ω))
    {x dx : Addr} (hx : H x = none) (hdx : H dx = none) (hne : dx ≠ x) : spI X.K X.mg c m (.ref x :: us) (upd (upd H dx (.own x)) x (.ins C dx [])) (fun v H2 => v = .non ∧ Q (.ref x) H2) (WE W σ) := by
  have o1 : Out [] H (upd (upd H dx (.own x)) x (.ins C dx [])) := fun b ob eo _ => by
    rw [upd_ne (fun z => by rw [z, hx] at eo; cases eo), upd_ne (fun z => by rw [z, hdx] at eo; cases eo)]
    exact eo
  have nx : x ∉ O := fun z => by
    obtain ⟨o, e, _⟩ := g.nt x z
    rw [hx] at e; cases e
  have g2 : Good bx O (upd (upd H dx (.own x)) x (.ins C dx [])) ω := g.out o1
  have hmore : ∀ b ∈ x :: O, b ∈ O ∨ H b = none := fun b z => (List.mem_cons.mp z).elim (fun y => .inr (by rw [y]; exact hx)) .inl
  have hd2 : DenL X.K X.mg bx (x :: O) (upd (upd H dx (.own x)) x (.ins C dx [])) us ds := (hd.more hmore).step (o1.wide fun b z => by cases z)
  have hst : ∀ {H' : Hp}, Stp bx [x] (upd (upd H dx (.own x)) x (.ins C dx [])) H' → Stp bx [] H H' := fun s => (Stp.of_out (bx := bx) (L := []) o1).trans s fun b z => .inr (by
    have e : b = x := by simpa using z
    rw [e]; exact hx)
  refine ⟨x, dx, C, us, bx, O, ω, ds, rfl, hc, upd_same, nx, hd2, ⟨fun b z => ?_, fun b e => ?_⟩, fun b e => (g.bx b e).1, ?_⟩
  · rcases List.mem_cons.mp z with z | z
    · rw [z]; exact ⟨_, upd_same, fun _ y => by cases y⟩
    · exact g2.nt b z
  · obtain ⟨h1, a0, h2, h3, h4⟩ := g2.bx b e
    refine ⟨List.mem_cons_of_mem _ h1, a0, fun z => ?_, h3, h4⟩
    rcases List.mem_cons.mp z with z | z
    · rw [z, upd_same] at h3; cases h3
    · exact h2 z
  · cases q : (m ds).run ω with
    | ok d ω' =>
      rw [q] at hr
      exact fun H' s' g' hv => ⟨rfl, hr _ H' (hst s') g' hv⟩
    | exc c fs ω' =>
      rw [q] at hr
      exact fun C dd gs H' hm s' g' nd e hp => hr C dd gs H' hm (hst s') g' nd e hp
    | bad => rw [q] at hr; exact hr
theorem de_make {c : Str} (F : MkD X.prog X.w X.K X.mg X.base k c m) (tk : L2N.Takes X W) (hr : Room (k + 1) X.A) (hg : Gl X c) (ha : DA X W ea (e :: es) r) (hdb : (c == ("__debug__" : Str)) = false := by decide) (he : starEach (e :: es) X.env = (false, eval e X.env) :: starEach es X.env := by rfl)
    (hpl : (backTo pos (starEach es X.env)).any (·.1) = false := by rfl) : DE X W ea (.Call (.Name c p) (e :: es) [] pos) (eCall m r) := by
  obtain ⟨C, f, fd, ps, h1, h2, h3, h4⟩ := F.ex
  refine ⟨fun pins s σ H Q I h => ?_⟩
  refine wpAny_Call_Name_kw (ld_glob I hg h1 ?_ hdb)
  have hgo := tG_bind (rel := relL X.K X.mg) (Q1 := fun us H1 => ∃ bx O ω ds, DenL X.K X.mg bx O H1 us ds ∧ Good bx O H1 ω ∧ RetG X.K X.mg W bx O σ H1 (relD X.K X.mg bx O) Q ((m ds).run ω)) h fun bx O ω ρ x d1 H1 he hg hx hr => ⟨bx, O, ω, d1, hx, hg, hr⟩
  refine PySem.W.callWith_K (h₀ := X.base) I.ok.mod.kin h2.kp (thn (ha.run pos pins s σ H _ I hgo) fun us s1 ⟨vs, H1, I1, r, bx, O, ω, ds, hd, g, hrr⟩ => ⟨I1.kIn, ?_⟩) he hpl
  exact run_makeS (E := WE W) h2 h3 hr h4 (L2N.passAt tk σ) I1 r fun x dx hx hdx hne => make_sp h1 hd g hrr hx hdx hne
end
end DL
end

section
set_option Elab.async false
set_option linter.all false
set_option maxRecDepth 100000
set_option maxHeartbeats 2000000
set_option autoImplicit false
/-! DL15: own exceptions raised, caught, read. -/
namespace DL
open PySem PySem.Spec PyProof.Rows L2

/-! ### an exception class whose __init__ stores its arguments -/
/-- what __init__ keeps: the arguments, the last one first -/
def spX (K : Fr) (names : List Str) : Sp := fun vs H Q E => ∃ (a C : Addr) (us : List V), vs = .ref a :: us ∧ us.length = names.length ∧ OexC K C ∧ (∀ f ∈ names, PySem.W.findIn K (.ref C) f = some none) ∧ H a = some (exo a C none) ∧
  ∀ (dx : Addr) (H2 : Hp), H dx = none → dx ≠ a → H2 a = some (exo a C (some dx)) → H2 dx = some (exd dx (names.zip us).reverse) → (∀ b, b ≠ a → b ≠ dx → H2 b = H b) → Q .non H2
section
variable {P : Program} {w : World} {K : PySem.W.Frag} {mg : Mg} {base : Heap} {x qual : Str} {params : Arguments} {scope : Scope} {dvs : List V} {kws : List (Str × V)} {f : Addr} {fd : FuncData} {k : Nat}
theorem xinit2 {se x1 x2 f1 f2 : Str} {p1 p2 p3 p4 p5 p6 p7 p8 : Pos} {N : List Str} (F : FunD K x qual params [.Assign [.Attribute (.Name se p1) f1 p2] (.Name x1 p3) p4, .Assign [.Attribute (.Name se p5) f2 p6] (.Name x2 p7) p8] scope dvs kws f fd) (hN : N = [se, x1, x2]) (S : FnScope N N scope)
    (v0 : Vis scope se := by first | exact Or.inl rfl | exact Or.inr (Or.inl rfl) | exact Or.inr (Or.inr rfl)) (v1 : Vis scope x1 := by first | exact Or.inl rfl | exact Or.inr (Or.inl rfl) | exact Or.inr (Or.inr rfl)) (v2 : Vis scope x2 := by first | exact Or.inl rfl | exact Or.inr (Or.inl rfl) | exact Or.inr (Or.inr rfl))
    (d0 : (se == ("__debug__" : Str)) = false := by decide) (d1 : (x1 == ("__debug__" : Str)) = false := by decide) (d2 : (x2 == ("__debug__" : Str)) = false := by decide) (e0 : (se == ("__classdict__" : Str)) = false := by decide) (e1 : (x1 == ("__classdict__" : Str)) = false := by decide) (e2 : (x2 == ("__classdict__" : Str)) = false := by decide)
    (s1 : ∀ env : Env, swapsWith (.Name x1 p3) (some (.Attribute (.Name se p1) f1 p2)) p4.line env = pure false := by intro _; rfl) (s2 : ∀ env : Env, swapsWith (.Name x2 p7) (some (.Attribute (.Name se p5) f2 p6)) p8.line env = pure false := by intro _; rfl) :
    FnOk P w K mg base (L2N.CX P w) (k + 1) f fd N (spX K [f1, f2]) := by
  subst hN
  refine F.ok S (fun vs H Q E h => ?_) fun cdv A outer s0 H vs Q E hr hsp => ?_
  · obtain ⟨a, C, us, e, l, _⟩ := h
    rw [e, List.length_cons, l]; rfl
  obtain ⟨a, C, us, rfl, hl, T, hno, ha, hq⟩ := hsp
  match us, hl with
  | [y1, y2], _ =>
    refine ⟨_, pss_cons (ps_ost (pe_var (i := 0) rfl v0 d0 e0) (pe_var (i := 1) rfl v1 d1 e1) (s1 _)) (pss_one (ps_ost (pe_var (i := 0) rfl v0 d0 e0) (pe_var (i := 2) rfl v2 d2 e2) (s2 _))), ?_⟩
    refine ⟨y1, rfl, .ref a, rfl, a, C, rfl, T, hno f1 (by simp), .inl ⟨ha, fun dx hdx hne => ?_⟩⟩
    have h1 : (upd (upd H dx (exd dx [(f1, y1)])) a (exo a C (some dx))) dx = some (exd dx [(f1, y1)]) := by rw [upd_ne hne, upd_same]
    refine ⟨y2, rfl, .ref a, rfl, a, C, rfl, T, hno f2 (by simp), .inr ⟨dx, _, upd_same, h1, by simp, ?_⟩⟩
    refine hq dx _ hdx hne ?_ upd_same fun b hb hd => ?_
    · rw [upd_ne (Ne.symm hne), upd_same]
    · rw [upd_ne hd, upd_ne hb, upd_ne hd]
theorem xinit1 {se x1 f1 : Str} {p1 p2 p3 p4 : Pos} {N : List Str} (F : FunD K x qual params [.Assign [.Attribute (.Name se p1) f1 p2] (.Name x1 p3) p4] scope dvs kws f fd) (hN : N = [se, x1]) (S : FnScope N N scope)
    (v0 : Vis scope se := by first | exact Or.inl rfl | exact Or.inr (Or.inl rfl) | exact Or.inr (Or.inr rfl)) (v1 : Vis scope x1 := by first | exact Or.inl rfl | exact Or.inr (Or.inl rfl) | exact Or.inr (Or.inr rfl))
    (d0 : (se == ("__debug__" : Str)) = false := by decide) (d1 : (x1 == ("__debug__" : Str)) = false := by decide) (e0 : (se == ("__classdict__" : Str)) = false := by decide) (e1 : (x1 == ("__classdict__" : Str)) = false := by decide)
    (s1 : ∀ env : Env, swapsWith (.Name x1 p3) (some (.Attribute (.Name se p1) f1 p2)) p4.line env = pure false := by intro _; rfl) :
    FnOk P w K mg base (L2N.CX P w) (k + 1) f fd N (spX K [f1]) := by
  subst hN
  refine F.ok S (fun vs H Q E h => ?_) fun cdv A outer s0 H vs Q E hr hsp => ?_
  · obtain ⟨a, C, us, e, l, _⟩ := h
    rw [e, List.length_cons, l]; rfl
  obtain ⟨a, C, us, rfl, hl, T, hno, ha, hq⟩ := hsp
  match us, hl with
  | [y1], _ =>
    refine ⟨_, pss_one (ps_ost (pe_var (i := 0) rfl v0 d0 e0) (pe_var (i := 1) rfl v1 d1 e1) (s1 _)), ?_⟩
    refine ⟨y1, rfl, .ref a, rfl, a, C, rfl, T, hno f1 (by simp), .inl ⟨ha, fun dx hdx hne => ?_⟩⟩
    refine hq dx _ hdx hne upd_same (by rw [upd_ne hne, upd_same]; rfl) fun b hb hd => ?_
    rw [upd_ne hb, upd_ne hd]
end
section
variable {X : Cx} {CX : CXT} {e : Expr} {es : List Expr} {ta : TA} {p pos : Pos} {x : Str} {C fI : Addr} {k : Nat} {fd : FuncData} {ps : List Str} {sp : Sp}
/-- C(e, ..), outside every except suite, its context noted -/
theorem pmk_oexN (T : OexC X.K C) (iC : PySem.W.findIn X.K (.ref C) "__init__" = some (some (.ref fI))) (tI : PySem.W.typeIn X.K (.ref fI) = some (.type "function")) (F1 : FnOk X.prog X.w X.K X.mg X.base CX k fI fd ps sp) (hr : Room (k + 1) X.A) (hb : Binds X.K fd ps []) (hx : Passes CX X fun _ _ _ => False) (hg : Gl X x) (hm : X.mg x = some (.ref C))
    (ha : PA X (e :: es) ta) (hdb : (x == ("__debug__" : Str)) = false := by decide) (he : starEach (e :: es) X.env = (false, eval e X.env) :: starEach es X.env := by rfl) (hpl : (backTo pos (starEach es X.env)).any (·.1) = false := by rfl) : L2N.PMk X (.Call (.Name x p) (e :: es) [] pos) (tMkO C sp [] ta) := fun pins s σ H Q I h => by
  obtain ⟨_, _, _, _, bm, _, _, _, _, _, _, _, _, _, _, hC, hbm⟩ := T.cls
  refine wpAny_Call_Name_kw (ld_glob I hg hm (PySem.W.callWith_K (h₀ := X.base) I.ok.mod.kin T.kC (thn (ha.run pos pins s σ H _ I h) fun us s1 ⟨vs, H1, I1, r1, hz, q1⟩ => ⟨I1.kIn, ?_⟩) he hpl) hdb)
  obtain ⟨hp, g, dr, tk, os⟩ := s1
  -- the new exception stands one behind its arguments' tuple
  obtain ⟨n, en⟩ : ∃ n, n = hp.objs.size + 1 := ⟨_, rfl⟩
  obtain ⟨hp2, e2⟩ : ∃ h2, h2 = (hp.push (PySem.W.kdv_tup us)).push (PySem.HandSPX.excO C hp.objs.size) := ⟨_, rfl⟩
  have le : hp.objs.size ≤ n := by omega
  have kk : ∀ b o, hp.get? b = some o → hp2.get? b = some o := fun b o z => by rw [e2]; exact Heap.get?_push_of_some _ (Heap.get?_push_of_some _ z)
  have there : hp2.get? n = some (PySem.HandSPX.excO C hp.objs.size) := by rw [e2, en]; heap_get
  have hq := q1 n (I1.hok.fresh le); rw [List.append_nil] at hq
  have I2 : Inv X pins σ (upd H1 n (exo n C none)) ⟨hp2, g, dr, tk, os⟩ := I1.laid (t' := tk) (a := n) (o := exo n C none) (h' := hp2) kk le (exo_ok there)
  have hl : (Value.ref n :: us).length = ps.length := by rw [← F1.len _ _ _ _ hq, List.length_cons, List.length_cons, Paired.length r1]
  have b2 := hb ⟨hp2, g, dr, tk, os⟩ (Value.ref n :: us) I2.kIn (by rw [List.append_nil]; exact hl); rw [List.append_nil] at b2
  have r2 : Vals (V.ref n :: vs) (Value.ref n :: us) := .cons rfl r1
  have run := F1.run _ X.stack _ _ ⟨Value.ref n :: us, []⟩ (Value.ref n :: us) _ _ (fun _ _ _ => False) (hr.make C us []) (I2.env0.make C us []) b2 r2 hq
  have small : us.length ≤ sizeLine := by rw [← Paired.length r1, sizeLine_eq]; omega
  rw [en, e2] at run; rw [en, e2] at I2
  refine wpAny_call (PySem.HandSPX.call_own F.excBase_ValueError (fun Y => PySem.HandSPX.refsVE_contains Y bm hbm) (I1.kIn _ _ hC) (PySem.W.looks_findIn I1.kIn iC) (fun self => PySem.W.bind_fn I1.kIn self tI) small (codeAny_mono run fun r s' hq' => ?_))
  match r, hq' with
  | .error er, hq' => exact hx pins σ _ _ er s' I2 hq'
  | .ok (.ret u), hq' =>
    obtain ⟨v, H2, os2, bare2, un2, hok2, rv, ev, d, fs, ea, ed, hd1, q2⟩ := hq'
    subst ev; subst en
    obtain ⟨h2, g2, d2, t2, os'⟩ := s'
    obtain ⟨t0, G, J, kG, ge, hoe, na⟩ := mk_end0 (d2 := d2) (t2 := t2) I1 le (fun b o z => by rw [← e2]; exact kk b o z) un2 hok2 os2 bare2 ea ed hd1
    exact ⟨rv, hp.objs.size + 1, _, _, ⟨G, g2, d2, t2, os'⟩, _, .ref C, some d, rfl, J, kG, ge, hoe, ⟨rfl, rfl, fun vs e => by cases e; rfl⟩, rfl, rfl, na, rfl, bare2, raises_own T.exC T.tyC, q2⟩
end
/-- c is an exception class that stores names -/
structure XkD (P : Program) (w : World) (K : PySem.W.Frag) (mg : Mg) (base : Heap) (k : Nat) (c : Str) (names : List Str) : Prop where
  ex : ∃ C fI fd ps, mg c = some (.ref C) ∧ OexC K C ∧ PySem.W.findIn K (.ref C) "__init__" = some (some (.ref fI)) ∧ PySem.W.typeIn K (.ref fI) = some (.type "function") ∧ FnOk P w K mg base (L2N.CX P w) k fI fd ps (spX K names) ∧ Binds K fd ps []
    ∧ XfC K C ∧ ∀ f ∈ names, PySem.W.findIn K (.ref C) f = some none
section
variable {X : Cx} {W : WX} {ea : Option (Addr × Addr)} {a b e o : Expr} {es : List Expr} {f g : Sls → M D} {r : Sls → M (List D)} {p pos apos pos' : Pos} {k : Nat}
/-- raise C(e, ..) -/
def raiseK (c : Str) (names : List Str) : List D → SM := fun ds ρ ω => if ds.length = names.length ∧ names.length ≤ 900 then .ex c (names.zip ds).reverse ρ ω else .bad
def sRaise (c : Str) (names : List Str) (B : List Nat) (r : Sls → M (List D)) : SM := sEvA B r (raiseK c names)
theorem paired_zip {K : Fr} {mg : Mg} {bx : Option Addr} {O : List Addr} {H : Hp} : ∀ {ns : List Str} {vs : List V} {ds : List D}, DenL K mg bx O H vs ds → Paired (fun (p : Str × V) (q : Str × D) => p.1 = q.1 ∧ Den K mg bx O H p.2 q.2) (ns.zip vs) (ns.zip ds)
  | [], _, _, _ => .nil
  | _ :: _, _, _, .nil => .nil
  | n :: ns, _, _, .cons h t => .cons ⟨rfl, h⟩ (paired_zip t)
theorem paired_app {α β : Type} {R : α → β → Prop} : ∀ {xs xs' : List α} {ys ys' : List β}, Paired R xs ys → Paired R xs' ys' → Paired R (xs ++ xs') (ys ++ ys')
  | _, _, _, _, .nil, h => h
  | _, _, _, _, .cons h t, h' => .cons h (paired_app t h')
theorem paired_rev {α β : Type} {R : α → β → Prop} : ∀ {xs : List α} {ys : List β}, Paired R xs ys → Paired R xs.reverse ys.reverse
  | _, _, .nil => .nil
  | _, _, .cons h t => by
    rw [List.reverse_cons, List.reverse_cons]
    exact paired_app (paired_rev t) (.cons h .nil)
theorem ds_raise {c : Str} {names : List Str} {B : List Nat} (F : XkD X.prog X.w X.K X.mg X.base k c names) (hc : X.calm = true) (tk : L2N.Takes X W) (hr : Room (k + 1) X.A) (hg : Gl X c) (ha : DA X W ea (e :: es) r) (hdb : (c == ("__debug__" : Str)) = false := by decide)
    (he : starEach (e :: es) X.env = (false, eval e X.env) :: starEach es X.env := by rfl) (hpl : (backTo pos (starEach es X.env)).any (·.1) = false := by rfl) : DS X W ea (.Raise (some (.Call (.Name c p) (e :: es) [] pos)) none pos') (sRaise c names B r) := by
  obtain ⟨C, fI, fd, ps, h1, T, hI, hT, hF, hB, _, hno⟩ := F.ex
  have hx : Passes (L2N.CX X.prog X.w) X (fun _ _ _ => False) := fun pins σ H s e s' I c => L2N.passes_call tk (fun _ _ _ _ z => z.elim) pins σ H s e s' I c
  refine ps_weak (L2N.ps_raise hc tk (pmk_oexN T hI hT hF hr hB hx hg h1 ha hdb he hpl)) fun D σ H h => ?_
  obtain ⟨bx, O, U, ω, ρ, st, g, h⟩ := h
  refine eva_go st g h fun ds vs ρ1 U1 ω1 H1 s1 u1 st1 g1 hv hf => ?_
  unfold raiseK at hf
  by_cases z : ds.length = names.length ∧ names.length ≤ 900
  · rw [if_pos z] at hf
    refine ⟨by rw [hv.length, z.1]; omega, fun a na => ?_⟩
    refine ⟨a, C, vs ++ [], rfl, by rw [List.append_nil, hv.length, z.1], T, hno, upd_same, fun dx H2 hdx hne h2 h3 h4 => ?_⟩
    rw [List.append_nil] at h3
    rw [upd_ne hne] at hdx
    refine ⟨rfl, dx, _, h2, h3, hdx, ?_⟩
    have o1 : Out [] H1 (upd (del H2 a) dx (.xd (names.zip vs).reverse)) := fun b ob eo _ => by
      have n1 : b ≠ dx := fun y => by rw [y, hdx] at eo; cases eo
      have n2 : b ≠ a := fun y => by rw [y, na] at eo; cases eo
      rw [upd_ne n1, del_ne n2, h4 b n2 n1, upd_ne n2]
      exact eo
    have nd : dx ∉ U1 ++ O := fun y => by
      obtain ⟨o, e, _⟩ := g1.nt _ y
      rw [hdx] at e; cases e
    exact hf C dx _ σ _ U1 h1 (Stp.of_out o1) (fun a z => .inl z) (st1.step0 g1 (Stp.of_out o1)) (g1.out o1) nd upd_same (paired_rev (paired_zip (hv.step (o1.wide fun b y => by cases y))))
  · rw [if_neg z] at hf; exact hf.elim
end

/-! ### try: .. except C as e: .. -/
def Sl.clr : Sl → Sl
  | .exn _ => .no
  | .own (.obj _ _ _) => .no
  | s => s
def clrS (i : Nat) (ρ : Sls) : Sls := (ρ.map Sl.clr).set i .no
def clrR (i : Nat) : RS → RS
  | .nx ρ ω => .nx (clrS i ρ) ω
  | .bk ρ ω => .bk (clrS i ρ) ω
  | .ct ρ ω => .ct (clrS i ρ) ω
  | .rt d ω => .rt d ω
  | _ => .bad
/-- the exceptions of c are caught, those of cs go on -/
def sTry (i : Nat) (c : Str) (cs : List Str) (s t : SM) : SM := fun ρ ω => match s ρ ω with
  | .ex c' fs ρ' ω' => if c' = c then (if i < ρ'.length then clrR i (t (ρ'.set i (.exn fs)) ω') else .bad) else if cs.contains c' then .ex c' fs ρ' ω' else .bad
  | q => q
theorem StOk.no {K : Fr} {mg : Mg} {bx : Option Addr} {ea : Option (Addr × Addr)} {O U : List Addr} {H : Hp} {σ : L2.St} {ρ : Sls} (st : StOk K mg bx ea O U H σ ρ) (i : Nat) : StOk K mg bx ea O U H (σ.set i none) (ρ.set i .no) := by
  have back : ∀ {j : Nat} {s : Sl}, (ρ.set i .no)[j]? = some s → s ≠ .no → i ≠ j ∧ ρ[j]? = some s := fun {j s} h1 hn => by
    by_cases z : i = j
    · subst z
      by_cases hl : i < ρ.length
      · rw [List.getElem?_set_self hl] at h1
        cases h1
        exact absurd rfl hn
      · rw [List.getElem?_eq_none (by simpa using hl)] at h1
        cases h1
    · rw [List.getElem?_set_ne z] at h1
      exact ⟨z, h1⟩
  refine ⟨by rw [List.length_set, List.length_set, st.len], fun j d h => ?_, fun j d h => ?_, fun j k d d' v h1 h2 h3 h4 => ?_, fun j fs h => ?_, st.dis, st.bxO⟩
  · obtain ⟨z, e⟩ := back h (fun y => by cases y)
    rw [List.getElem?_set_ne z]; exact st.val j d e
  · obtain ⟨z, e⟩ := back h (fun y => by cases y)
    rw [List.getElem?_set_ne z]; exact st.own j d e
  · obtain ⟨z, e⟩ := back h1 (fun y => by cases y)
    obtain ⟨z', e'⟩ := back h2 (fun y => by cases y)
    rw [List.getElem?_set_ne z] at h3
    rw [List.getElem?_set_ne z'] at h4
    exact st.inj j k d d' v e e' h3 h4
  · obtain ⟨z, e⟩ := back h (fun y => by cases y)
    rw [List.getElem?_set_ne z]; exact st.exn j fs e
theorem StOk.clr {K : Fr} {mg : Mg} {bx : Option Addr} {ea : Option (Addr × Addr)} {O U : List Addr} {H : Hp} {σ : L2.St} {ρ : Sls} (st : StOk K mg bx ea O U H σ ρ) : StOk K mg bx none O U H σ (ρ.map Sl.clr) := by
  have back : ∀ {j : Nat} {s : Sl}, (ρ.map Sl.clr)[j]? = some s → s ≠ .no → ρ[j]? = some s ∧ ∀ fs, s ≠ .exn fs := fun {j s} h1 hn => by
    rw [List.getElem?_map] at h1
    obtain ⟨s0, e0, e1⟩ := Option.map_eq_some_iff.mp h1
    cases s0 with
    | exn fs => exact absurd e1.symm hn
    | no => exact absurd e1.symm hn
    | val d => cases e1; exact ⟨e0, fun fs z => by cases z⟩
    | own d =>
      cases d with
      | obj c ns ds => exact absurd e1.symm hn
      | _ => cases e1; exact ⟨e0, fun fs z => by cases z⟩
  have nob : ∀ {j : Nat} {d : D}, (ρ.map Sl.clr)[j]? = some (.own d) → ∀ c ns ds, d ≠ .obj c ns ds := fun {j d} h c ns ds z => by
    rw [List.getElem?_map] at h
    obtain ⟨s0, e0, e1⟩ := Option.map_eq_some_iff.mp h
    subst z
    cases s0 with
    | own d0 => cases d0 <;> cases e1
    | _ => cases e1
  refine ⟨by rw [List.length_map, st.len], fun j d h => st.val j d (back h fun y => by cases y).1, fun j d h => ?_, fun j k d d' v h1 h2 h3 h4 => st.inj j k d d' v (back h1 fun y => by cases y).1 (back h2 fun y => by cases y).1 h3 h4, fun j fs h => absurd rfl ((back h fun y => by cases y).2 fs), st.dis, st.bxO⟩
  obtain ⟨a, h1, h2, h3⟩ := st.own j d (back h fun y => by cases y).1
  refine ⟨a, h1, h2, ?_⟩
  cases d with
  | lst ds => exact h3
  | obj c ns ds => exact absurd rfl (nob h c ns ds)
  | _ => exact h3
/-- the exception's name is bound -/
theorem StOk.catch {K : Fr} {mg : Mg} {bx : Option Addr} {O U : List Addr} {H : Hp} {σ : L2.St} {ρ : Sls} {i : Nat} {a dd : Addr} {gs : List (Str × V)} {fs : List (Str × D)} (st : StOk K mg bx none O U H σ ρ) (hi : i < ρ.length) (nd : dd ∉ U ++ O) (hH : H dd = some (.xd gs))
    (hp : Paired (fun (p : Str × V) (q : Str × D) => p.1 = q.1 ∧ Den K mg bx (U ++ O) H p.2 q.2) gs fs) : StOk K mg bx (some (a, dd)) O U H (σ.set i (some (.ref a))) (ρ.set i (.exn fs)) := by
  have hs : i < σ.length := by rw [st.len]; exact hi
  have back : ∀ {j : Nat} {s : Sl}, (ρ.set i (.exn fs))[j]? = some s → (j = i ∧ s = .exn fs) ∨ (i ≠ j ∧ ρ[j]? = some s) := fun {j s} h1 => by
    by_cases z : i = j
    · subst z
      rw [List.getElem?_set_self hi] at h1
      cases h1
      exact .inl ⟨rfl, rfl⟩
    · rw [List.getElem?_set_ne z] at h1
      exact .inr ⟨z, h1⟩
  refine ⟨by rw [List.length_set, List.length_set, st.len], fun j d h => ?_, fun j d h => ?_, fun j k d d' v h1 h2 h3 h4 => ?_, fun j fs' h => ?_, st.dis, st.bxO⟩
  · rcases back h with ⟨_, e⟩ | ⟨z, e⟩
    · cases e
    · rw [List.getElem?_set_ne z]; exact st.val j d e
  · rcases back h with ⟨_, e⟩ | ⟨z, e⟩
    · cases e
    · rw [List.getElem?_set_ne z]
      obtain ⟨q, h4, h5, h6⟩ := st.own j d e
      refine ⟨q, h4, h5, ?_⟩
      cases d with
      | lst ds => exact h6
      | obj c ns ds => obtain ⟨⟨z, e⟩, _⟩ := h6; cases e
      | _ => exact h6
  · rcases back h1 with ⟨_, e⟩ | ⟨z, e⟩
    · cases e
    · rcases back h2 with ⟨_, e'⟩ | ⟨z', e'⟩
      · cases e'
      · rw [List.getElem?_set_ne z] at h3
        rw [List.getElem?_set_ne z'] at h4
        exact st.inj j k d d' v e e' h3 h4
  · rcases back h with ⟨rfl, e⟩ | ⟨z, e⟩
    · cases e
      exact ⟨a, dd, gs, rfl, by rw [List.getElem?_set_self hs], nd, hH, hp⟩
    · obtain ⟨q, d1, g1, e1, _⟩ := st.exn j fs' e
      cases e1
/-- of the exception classes: c catches its own, cs are none of its -/
structure XcD (K : PySem.W.Frag) (mg : Mg) (c : Str) (cs : List Str) : Prop where
  ex : ∃ C, mg c = some (.ref C) ∧ PySem.W.exmOne K (.ref C) (.ref C) = some true ∧ ∀ c' ∈ cs, ∀ C', mg c' = some (.ref C') → PySem.W.exmOne K (.ref C') (.ref C) = some false
section
variable {X : Cx} {W : WX} {a b e o : Expr} {s t : SM} {p pos apos pos' : Pos} {k : Nat}
/-- what the suite is walked in -/
def DSuite (X : Cx) (C : Addr) (ss : List Stmt) (t : SM) : Prop := ∀ (a : Addr) (oe : Obj) (dd : Addr) (pn : List (Addr × Obj)), L2N.Zn (.ref C) (some dd) oe → (∃ vs, oe.data = .fields vs) → DSs (X.suite a ((a, oe) :: pn)) W0 (some (a, dd)) ss t
theorem ds_try {i : Nat} {n c : Str} {cs : List Str} {np : Pos} {body suite : List Stmt} {b₀ : Stmt} (hs : X.stack = X.env :: X.outer) (hf : X.env.frame = some X.env.locals) (hN : X.N.Nodup) (hi : X.N[i]? = some n) (hln : X.env.kindOf n = some .local) (T : XcD X.K X.mg c cs) (hg : Gl X c) (tk : L2N.Takes X W)
    (hb : ∀ (W' : WX) (pn : List (Addr × Obj)) (xe : Value → Shared → Prop), L2N.Takes (X.tr pn xe) W' → PassesOwn (model X.prog X.w) X.A X.env xe → DSs (X.tr pn xe) W' none body s) (hsu : ∀ C, X.mg c = some (.ref C) → DSuite X C (b₀ :: suite) t) (hdb : (c == ("__debug__" : Str)) = false := by decide) :
    DS X W none (.Try body [.ExceptHandler (some (.Name c np)) (some n) (b₀ :: suite) pos'] [] [] pos) (sTry i c cs s t) := by
  obtain ⟨C, hC, h1, h2⟩ := T.ex
  have nm : Names X c (.ref C) := ⟨hg, hdb, .inl hC⟩
  have key := L2N.ps_try_as (tb := fun W' => tS X.K X.mg W' none s) (Wout := W) (pos := pos) (np := np) (pos' := pos') (ts := fun a cls d => fun Dd σ H => cls = .ref C ∧ ∃ dd, d = some dd ∧ tS X.K X.mg W0 (some (a, dd)) t Dd σ H) hs hf hN hi hln nm tk (fun W' pn xe tk' hp => hb W' pn xe tk' hp) (suite := suite) (b₀ := b₀) (fun a oe cls d pn hz hfl => ⟨fun pins s σ H D I hq => by
    obtain ⟨rfl, dd, rfl, hq⟩ := hq
    exact (hsu C hC a oe dd pn hz hfl).run pins s σ H D I hq⟩)
  refine ps_weak key fun D σ H h => ?_
  obtain ⟨bx, O, U, ω, ρ, st, g, h⟩ := h
  refine ⟨bx, O, U, ω, ρ, st, g, ?_⟩
  unfold sTry at h
  cases e : s ρ ω with
  | nx ρ' ω' => rw [e] at h; exact h
  | bk ρ' ω' => rw [e] at h; exact h
  | ct ρ' ω' => rw [e] at h; exact h
  | rt d ω' => rw [e] at h; exact h
  | bad => rw [e] at h; exact h
  | ex c' fs ρ' ω' =>
    rw [e] at h
    dsimp only at h
    intro C' dd gs σ' H' U' hm s' u' st' g' nd hdd hp
    by_cases z : c' = c
    · subst z
      rw [if_pos rfl] at h
      rw [hC] at hm
      cases hm
      refine ⟨true, h1, fun _ a na => ?_, fun z => by cases z⟩
      by_cases hl : i < ρ'.length
      · rw [if_pos hl] at h
        refine ⟨rfl, dd, rfl, bx, O, U', ω', _, st'.catch hl nd hdd hp, g', ?_⟩
        cases q : t (ρ'.set i (.exn fs)) ω' with
        | nx ρ2 ω2 =>
          rw [q] at h
          exact fun σ2 H2 U2 s2 u2 st2 g2 => (h.later (U1 := U') s' u') (σ2.set i none) H2 U2 s2 u2 (st2.clr.no i) g2
        | bk ρ2 ω2 =>
          rw [q] at h
          exact fun σ2 H2 U2 s2 u2 st2 g2 => (h.later (U1 := U') s' u') (σ2.set i none) H2 U2 s2 u2 (st2.clr.no i) g2
        | ct ρ2 ω2 =>
          rw [q] at h
          exact fun σ2 H2 U2 s2 u2 st2 g2 => (h.later (U1 := U') s' u') (σ2.set i none) H2 U2 s2 u2 (st2.clr.no i) g2
        | rt d ω2 =>
          rw [q] at h
          exact fun v H2 s2 g2 hd => (h.later (U1 := U') s' u') v H2 s2 g2 hd
        | ex c2 fs2 ρ2 ω2 => rw [q] at h; exact h.elim
        | bad => rw [q] at h; exact h.elim
      · rw [if_neg hl] at h; exact h.elim
    · rw [if_neg z] at h
      by_cases hcs : cs.contains c' = true
      · rw [if_pos hcs] at h
        refine ⟨false, h2 c' (List.contains_iff_mem.mp hcs) C' hm, fun z => (by cases z), fun _ => ?_⟩
        exact h C' dd gs σ' H' U' hm s' u' st' g' nd hdd hp
      · rw [if_neg hcs] at h; exact h.elim
/-- e.f of the exception at slot i -/
def eXf (i : Nat) (n : Str) (names : List Str) : Sls → M D := fun ρ => ofOpt (match (ρ[i]? : Option Sl) with
  | some (.exn fs) => if names.contains n then fs.lookup n else none
  | _ => none)
theorem paired_lookup {K : Fr} {mg : Mg} {bx : Option Addr} {O : List Addr} {H : Hp} {n : Str} {d : D} : ∀ {gs : List (Str × V)} {fs : List (Str × D)}, Paired (fun (p : Str × V) (q : Str × D) => p.1 = q.1 ∧ Den K mg bx O H p.2 q.2) gs fs → fs.lookup n = some d → ∃ v, gs.lookup n = some v ∧ Den K mg bx O H v d
  | _, _, .nil, e => by cases e
  | (m, v) :: gs, (m', d') :: fs, .cons h t, e => by
    obtain ⟨h1, h2⟩ := h
    have h1 : m = m' := h1
    subst h1
    have e2 : (match n == m with | true => some d' | false => fs.lookup n) = some d := e
    show ∃ v', (match n == m with | true => some v | false => gs.lookup n) = some v' ∧ _
    cases q : n == m with
    | true => rw [q] at e2; cases e2; exact ⟨v, rfl, h2⟩
    | false => rw [q] at e2; exact paired_lookup t e2
theorem de_xf {i : Nat} {x n c : Str} {C a dd : Addr} {oe : Obj} {pn : List (Addr × Obj)} {names : List Str} (F : XkD X.prog X.w X.K X.mg X.base k c names) (hC : X.mg c = some (.ref C)) (hz : L2N.Zn (.ref C) (some dd) oe) (hfl : ∃ vs, oe.data = .fields vs) (hN : X.N[i]? = some x)
    (hn : names.contains n = true := by decide) (hv : Vis X.env.scope x := by first | exact Or.inl rfl | exact Or.inr (Or.inl rfl) | exact Or.inr (Or.inr rfl)) (hd : (x == ("__debug__" : Str)) = false := by decide)
    (hcd : (x == ("__classdict__" : Str)) = false := by decide) (hb : attributeBase (.Name x p) n X.env (eval (.Name x p) X.env) = eval (.Name x p) X.env := by rfl) : DE (X.suite a ((a, oe) :: pn)) W0 (some (a, dd)) (.Attribute (.Name x p) n pos) (eXf i n names) := by
  obtain ⟨C', fI, fd, ps, h1, _, _, _, _, _, hX, hno⟩ := F.ex
  rw [hC] at h1
  cases h1
  have hv' : PE (X.suite a ((a, oe) :: pn)) (.Name x p) (tVar i) := pe_var hN hv hd hcd
  refine pe_weak (pe_xf hX (hno n (List.contains_iff_mem.mp hn)) hz.zc hfl hv' hb) fun σ H Q h => ?_
  obtain ⟨bx, O, ω, ρ, he, hg, hr⟩ := h
  obtain ⟨d, e, hr⟩ := retG_opt hr
  split at e
  · rename_i fs hi
    rw [if_pos hn] at e
    obtain ⟨a', dd', gs, h2, h3, h4, h5, h6⟩ := he.exn i fs hi
    cases h2
    obtain ⟨v, h7, h8⟩ := paired_lookup h6 e
    exact ⟨.ref a, h3, rfl, rfl, dd, gs, v, rfl, h5, h7, tG_pure hr hg h8⟩
  · cases e
end
end DL
end

section
set_option Elab.async false
set_option linter.all false
set_option maxRecDepth 100000
set_option maxHeartbeats 2000000
set_option autoImplicit false
/-! DL16: ==, in of own classes; defs called within an except suite. -/
namespace DL
open PySem PySem.Spec PyProof.Rows L2

/-! ### comparisons that run code -/
def OpS (X : Cx) (f : Value → Value → Sem Value) (r : L2.St → R2) : Prop := ∀ (pins : List (Addr × Obj)) (s : Shared) (σ : L2.St) (H : Hp) (x y : V) (v u : Value) (Q : VK), Inv X pins σ H s → RelV x v → RelV y u → r σ x y H Q → wpAny (model X.prog X.w) X.A (f v u) (EP X pins σ Q) X.xe s
def tOpS (r : L2.St → R2) (ta tb : TE) : TE := fun σ H Q => ta σ H fun x H1 => tb σ H1 fun y H2 => r σ x y H2 Q
def rQ (K : Fr) (mg : Mg) (W : WX) (op : D → D → M D) : L2.St → R2 := fun σ x y H Q => ∃ bx O ω d1 d2, Good bx O H ω ∧ Den K mg bx O H x d1 ∧ Den K mg bx O H y d2 ∧ RetG K mg W bx O σ H (relD K mg bx O) Q ((op d1 d2).run ω)
def eBinM (op : D → D → M D) (f g : Sls → M D) : Sls → M D := fun ρ => f ρ >>= fun x => g ρ >>= fun y => op x y
def cBinM (op : D → D → M D) (f g : Sls → M D) : Sls → M Bool := fun ρ => f ρ >>= fun x => g ρ >>= fun y => op x y >>= fun z => ofOpt (asB z)
section
variable {X : Cx} {W : WX} {ea : Option (Addr × Addr)} {a b e o : Expr} {f g : Sls → M D} {p pos : Pos} {k : Nat} {op : D → D → M D}
theorem binM_go {σ : L2.St} {H : Hp} {Q : VK} (h : tE X.K X.mg W ea (eBinM op f g) σ H Q) : tOpS (rQ X.K X.mg W op) (tE X.K X.mg W ea f) (tE X.K X.mg W ea g) σ H Q := by
  refine tG_bind h fun bx O ω ρ x d1 H1 he hg hx hr => ⟨bx, O, ω, ρ, he, hg, ?_⟩
  rw [M.bind_run] at hr
  cases e : (g ρ).run ω with
  | ok d2 ω1 =>
    rw [e] at hr
    intro y H2 s2 g2 hy
    exact ⟨bx, O, ω1, d1, d2, g2, hx.step (s2.out0 hg), hy, RetG.later hr s2⟩
  | exc c fs ω1 => rw [e] at hr; exact hr
  | bad => rw [e] at hr; exact hr
theorem de_cmpM {q : CmpOp} (ho : OpS X (compareOp q) (rQ X.K X.mg W op)) (ha : DE X W ea a f) (hb : DE X W ea b g) (hm : behindInMarks q b = false := by rfl) : DE X W ea (.Compare a [q] [b] pos) (eBinM op f g) := ⟨fun pins s σ H Q I h => by
  have h2 := binM_go h
  exact wpAny_Compare1 (thn (ha.run pins s σ H _ I h2) fun v s1 ⟨x, H1, I1, r1, q1⟩ => thn (hb.run pins s1 σ H1 _ I1 q1) fun u s2 ⟨y, H2, I2, r2, q2⟩ => ho pins s2 σ H2 x y v u Q I2 r1 r2 q2) hm⟩
theorem dt_cmpM {q : CmpOp} (ho : OpS X (compareOp q) (rQ X.K X.mg W op)) (ha : DE X W ea a f) (hb : DE X W ea b g) (hm : behindInMarks q b = false := by rfl) : DT X W ea (.Compare a [q] [b] pos) (cBinM op f g) := ⟨fun pins s σ H Q I h => by
  have h1 : tE X.K X.mg W ea (eBinM op f g) σ H fun z H' => ∃ k, z = .bl k ∧ Q k H' := by
    obtain ⟨bx, O, ω, ρ, he, hg, hr⟩ := h
    refine ⟨bx, O, ω, ρ, he, hg, ?_⟩
    have hr : RetG _ _ _ _ _ _ _ _ _ ((f ρ >>= fun x => g ρ >>= fun y => op x y >>= fun z => ofOpt (asB z)).run ω) := hr
    show RetG _ _ _ _ _ _ _ _ _ ((f ρ >>= fun x => g ρ >>= fun y => op x y).run ω)
    have e : (f ρ >>= fun x => g ρ >>= fun y => op x y >>= fun z => ofOpt (asB z)) = ((f ρ >>= fun x => g ρ >>= fun y => op x y) >>= fun z => ofOpt (asB z)) := by simp only [bind_assoc]
    rw [e, M.bind_run] at hr
    cases q : (f ρ >>= fun x => g ρ >>= fun y => op x y).run ω with
    | ok d ω1 =>
      rw [q] at hr
      intro v H' s g r
      obtain ⟨b, e, hr⟩ := retG_opt (RetG.later hr s)
      cases d <;> simp only [asB, Option.some.injEq, reduceCtorEq] at e
      subst e
      cases r
      exact ⟨_, rfl, hr _ H' Stp.refl g rfl⟩
    | exc c fs ω1 => rw [q] at hr; exact hr
    | bad => rw [q] at hr; exact hr
  have h2 := binM_go h1
  refine wpAny_isTrue_Compare1 (thn (ha.run pins s σ H _ I h2) fun v s1 ⟨x, H1, I1, r1, q1⟩ => thn (hb.run pins s1 σ H1 _ I1 q1) fun u s2 ⟨y, H2, I2, r2, q2⟩ => thn (ho pins s2 σ H2 x y v u _ I2 r1 r2 q2) fun c s3 ⟨z, H3, I3, r3, k, e, q3⟩ => ?_) hm
  subst e
  cases r3
  exact wpAny_truthy_bool ⟨H3, I3, q3⟩⟩
end

/-! ### a def that may be called while an exception is handled -/
structure MtH (P : Program) (w : World) (K : PySem.W.Frag) (mg : Mg) (base : Heap) (k : Nat) (c : Str) (nm : Str) (m : List D → M D) : Prop where
  ex : ∃ C f fd ps, mg c = some (.ref C) ∧ Cls K C ∧ Meth K C nm f ∧ L2H.FnH P w K mg base (L2N.CX P w) k f fd ps (spD K mg m) ∧ Binds K fd ps []
section
variable {P : Program} {w : World} {K : PySem.W.Frag} {mg : Mg} {base : Heap} {x qual : Str} {params : Arguments} {body : List Stmt} {scope : Scope} {dvs : List V} {kws : List (Str × V)} {f : Addr} {fd : FuncData}
theorem fn_mkH {N ps : List Str} {k : Nat} {s : SM} (F : FunD K x qual params body scope dvs kws f fd) (S : FnScope N ps scope)
    (hb : ∀ (cdv : Value) (A : Around) (outer : List Env) (s0 : Shared) (H : Hp) (E : XK) (p : Addr × Obj), L2H.Hot1 A p → L2H.RoomH k (A.deeper (envOfC qual scope s0.heap.objs.size f cdv)) → DSs (L2H.cxH (L2N.CX P w) P w K mg base N qual scope f cdv A outer s0 H E p) (WEn E) none body s) :
    L2H.FnH P w K mg base (L2N.CX P w) (k + 1) f fd ps (spD K mg (runB ps.length N.length s)) := by
  obtain ⟨oc, od, dV, kV, doc, pm, an, cdv, ct, osl, rfl, lk, hcd, _, _⟩ := F.ex
  refine L2H.fn_ofH lk hcd S (fun vs H Q E h => spD_len h) fun A outer s0 H vs Q E p hot hr hsp => ⟨_, hb cdv A outer s0 H E p hot hr, ?_⟩
  obtain ⟨bx, O, ω, ds, hd, g, hr2⟩ := hsp
  have hl : ds.length = ps.length := by
    by_cases z : ds.length = ps.length
    · exact z
    · have e : (runB ps.length N.length s ds).run ω = .bad := if_neg z
      rw [e] at hr2
      exact hr2.elim
  have e : (runB ps.length N.length s ds).run ω = bodyR (s (startS N.length ds) ω) := if_pos hl
  rw [e] at hr2
  exact ⟨bx, O, [], ω, _, stOk_start hd g, g, fin_ends hr2⟩
end

/-! ### own == -/
/-- what == of the class c runs, in X -/
def EqC (X : Cx) (c : Str) (m : List D → M D) : Prop := ∃ C g, X.mg c = some (.ref C) ∧ PySem.W.findIn X.K (.ref C) "__eq__" = some (some (.ref g)) ∧ PySem.W.isFn X.K (.ref g) = true ∧
  ∀ (pins : List (Addr × Obj)) (σ : L2.St) (H : Hp) (s : Shared) (us : List Value) (vs : List V) (Q : VK), Inv X pins σ H s → Vals vs us → spD X.K X.mg m vs H Q (fun _ _ _ => False) → wpAny (model X.prog X.w) X.A (call (.ref g) us) (EP X pins σ Q) X.xe s
theorem passN {X : Cx} {σ : L2.St} : PassesAt (L2N.CX X.prog X.w) X σ (fun _ _ _ => False) := fun pins H s e s' I c => by
  obtain ⟨_, _, _, _, _, _, _, _, _, _, _, _, hE⟩ := c
  exact hE.elim
theorem eq_cool {X : Cx} {c : Str} {k : Nat} {m : List D → M D} (F : MtD X.prog X.w X.K X.mg X.base k c "__eq__" m) (hr : Room k X.A) : EqC X c m := by
  obtain ⟨C, f, fd, ps, h1, _, h2, h3, h4⟩ := F.ex
  exact ⟨C, f, h1, h2.at_, h2.fn, fun pins σ H s us vs Q I r h => run_fnSD (E := fun _ _ _ _ => False) h3 hr h4 .nil passN I r (by rw [List.append_nil]; exact h)⟩
theorem eq_hot {X : Cx} {c : Str} {k : Nat} {m : List D → M D} (F : MtH X.prog X.w X.K X.mg X.base k c "__eq__" m) (hr : L2H.RoomH k X.A) (hc : L2H.HotC X) : EqC X c m := by
  obtain ⟨C, f, fd, ps, h1, _, h2, h3, h4⟩ := F.ex
  exact ⟨C, f, h1, h2.at_, h2.fn, fun pins σ H s us vs Q I r h => L2H.run_fnH (E := fun _ _ _ _ => False) h3 hr hc h4 passN I r h⟩
/-- no class of the table, no built-in type of ours stands ahead of c -/
structure NFc (K : Fr) (mg : Mg) (T : Tbl) (c : Str) : Prop where
  ty : ∀ C, mg c = some (.ref C) → ∀ n ∈ (["NoneType", "int", "bool", "str", "tuple", "list"] : List String), PySem.W.notFirst K C (.type n) = true
  own : ∀ C c' C', mg c = some (.ref C) → (T.lookup c').isSome = true → mg c' = some (.ref C') → PySem.W.notFirst K C (.ref C') = true
def known (T : Tbl) : D → Bool
  | .obj c _ _ => (T.lookup c).isSome
  | d => (tyName d).isSome
def eqO (T : Tbl) (c : Str) (m : List D → M D) (x y : D) : M D := match x with
  | .obj c' ns ds => if c' = c ∧ known T y = true then (m [.obj c' ns ds, y]).nox else M.bad
  | x => ofOpt ((eqD x y).map D.bl)
theorem known_ty {X : Cx} {T : Tbl} (CT : CFs X.K X.mg T) {c : Str} (NF : NFc X.K X.mg T c) {C : Addr} (hC : X.mg c = some (.ref C)) {bx : Option Addr} {O : List Addr} {H : Hp} {v : V} {d : D} (h : Den X.K X.mg bx O H v d) (e : known T d = true) : ∃ t, TyX X.K H v t ∧ PySem.W.notFirst X.K C t = true := by
  cases d with
  | obj c' ns ds =>
    obtain ⟨C', fs, hc', F, t⟩ := obj_ty CT e h
    exact ⟨_, t, NF.own C c' C' hC e hc'⟩
  | non => obtain ⟨t1, t2⟩ := tyx_of h rfl; exact ⟨_, t1, NF.ty C hC _ t2⟩
  | bl _ => obtain ⟨t1, t2⟩ := tyx_of h rfl; exact ⟨_, t1, NF.ty C hC _ t2⟩
  | int _ => obtain ⟨t1, t2⟩ := tyx_of h rfl; exact ⟨_, t1, NF.ty C hC _ t2⟩
  | str _ => obtain ⟨t1, t2⟩ := tyx_of h rfl; exact ⟨_, t1, NF.ty C hC _ t2⟩
  | tup _ => obtain ⟨t1, t2⟩ := tyx_of h rfl; exact ⟨_, t1, NF.ty C hC _ t2⟩
  | lst _ => obtain ⟨t1, t2⟩ := tyx_of h rfl; exact ⟨_, t1, NF.ty C hC _ t2⟩
  | scr _ => obtain ⟨t1, t2⟩ := tyx_of h rfl; exact ⟨_, t1, NF.ty C hC _ t2⟩
  | box => cases e
theorem op_eqO {X : Cx} {W : WX} {T : Tbl} {c : Str} {m : List D → M D} (CT : CFs X.K X.mg T) (NF : NFc X.K X.mg T c) (E : EqC X c m) (hu : X.A.units + 64 < cLine) : OpS X (compareOp .Eq) (rQ X.K X.mg W (eqO T c m)) := fun pins s σ H x y v u Q I rx ry h => by
  obtain ⟨bx, O, ω, d1, d2, g, h1, h2, hr⟩ := h
  by_cases ho : ∃ c' ns ds, d1 = .obj c' ns ds
  · obtain ⟨c', ns, ds, rfl⟩ := ho
    unfold eqO at hr
    dsimp only at hr
    by_cases z : c' = c ∧ known T d2 = true
    · rw [if_pos z] at hr
      obtain ⟨rfl, hk⟩ := z
      obtain ⟨C, q, hC, hs, hf, run⟩ := E
      obtain ⟨t, ht, hnf⟩ := known_ty CT NF hC h2 hk
      obtain ⟨Pk, kx, hp, _⟩ := kit_of I ry ht
      cases h1 with
      | obj ha hc hH hl rr =>
        rw [hC] at hc
        cases hc
        cases (show v = Value.ref _ from rx)
        obtain ⟨mA, OM, _, _, _, _⟩ := ins_get I.hok hH
        obtain ⟨od, J, _⟩ := OM.look
        obtain ⟨mm, hF⟩ := I.fr
        show wpAny _ _ (richCompare .Eq (.ref _) u) _ _ _
        refine PySem.W.cmp_K (op := .Eq) (by omega) hF I.ok.mod.kin J (kx.ty _ _ I.kIn hp) hnf hs hf ?_
        refine wpAny_mono (run pins σ H s [.ref _, u] [.ref _, y] Q I (.cons rfl (.cons ry .nil)) ⟨bx, O, ω, _, .cons (.obj ha hC hH hl rr) (.cons h2 .nil), g, retG_nox hr⟩) (fun w' s' z => ?_) fun _ _ x => x
        obtain ⟨z', H', I', rz, qz⟩ := z
        exact SlX.cmpback rz ⟨z', H', I', rz, qz⟩
    · rw [if_neg z] at hr; exact hr.elim
  · have e : eqO T c m d1 d2 = ofOpt ((eqD d1 d2).map D.bl) := by
      unfold eqO
      split
      · exact absurd ⟨_, _, _, rfl⟩ ho
      · rfl
    rw [e] at hr
    obtain ⟨d, eo, hr⟩ := retG_opt hr
    exact op_eqDD hu pins s σ H x y v u Q I rx ry ⟨bx, O, d1, d2, d, eo, g.nt, h1, h2, fun v' H' s' hv => tG_new hr s' g hv⟩

/-! ### x in an instance -/
def inO (c : Str) (m : List D → M D) (x y : D) : M D := match y with
  | .obj c' ns ds => if c' = c then (m [.obj c' ns ds, x] >>= fun z => ofOpt ((asB z).map D.bl)) else M.bad
  | _ => M.bad
theorem op_inO {X : Cx} {W : WX} {c : Str} {k : Nat} {m : List D → M D} (F : MtD X.prog X.w X.K X.mg X.base k c "__contains__" m) (tk : L2N.Takes X W) (hr : Room k X.A) : OpS X (compareOp .In) (rQ X.K X.mg W (inO c m)) := fun pins s σ H x y v u Q I rx ry h => by
  obtain ⟨bx, O, ω, d1, d2, g, h1, h2, hr2⟩ := h
  cases h2 with
  | @obj c' C a dx ns vs ds ha hc hH hl rr =>
    unfold inO at hr2
    dsimp only at hr2
    by_cases z : c' = c
    · rw [if_pos z] at hr2
      subst z
      obtain ⟨C', f, fd, ps, hC, _, hm, h3, h4⟩ := F.ex
      rw [hc] at hC
      cases hC
      cases (show u = Value.ref _ from ry)
      obtain ⟨mA, OM, _, _, _, _⟩ := ins_get I.hok hH
      obtain ⟨od, J, _⟩ := OM.look
      obtain ⟨mm, hF⟩ := I.fr
      refine PySem.W.in_K hF I.ok.mod.kin J hm.at_ hm.fn ?_
      have hsp : spD X.K X.mg m [.ref a, x] H (fun z H' => ∃ b, z = .bl b ∧ Q (.bl b) H') (WE W σ) := by
        refine ⟨bx, O, ω, _, .cons (.obj ha hc hH hl rr) (.cons h1 .nil), g, ?_⟩
        rw [M.bind_run] at hr2
        cases q : (m [.obj c' ns ds, d1]).run ω with
        | ok d ω1 =>
          rw [q] at hr2
          intro v' H' s' g' r
          obtain ⟨d', e, hr3⟩ := retG_opt (RetG.later hr2 s')
          cases d <;> simp only [asB, Option.map_some, Option.map_none, Option.some.injEq, reduceCtorEq] at e
          subst e
          cases r
          exact ⟨_, rfl, hr3 _ H' Stp.refl g' (.bl _)⟩
        | exc c2 fs ω1 => rw [q] at hr2; exact hr2
        | bad => rw [q] at hr2; exact hr2
      refine wpAny_mono (run_fnSD (us := [.ref a, v]) (vs := [.ref a, x]) (E := WE W) h3 hr h4 .nil (L2N.passAt tk σ) I (.cons rfl (.cons rx .nil)) (by rw [List.append_nil]; exact hsp)) (fun w' s' z => ?_) fun _ _ x => x
      obtain ⟨z', H', I', rz, b, e, qz⟩ := z
      subst e
      cases rz
      exact wpAny_truthy_bool ⟨.bl b, H', I', rfl, qz⟩
    · rw [if_neg z] at hr2; exact hr2.elim
  | _ => exact hr2.elim
end DL
end

section
set_option Elab.async false
set_option linter.all false
set_option maxRecDepth 100000
set_option maxHeartbeats 2000000
set_option autoImplicit false
/-! DL17: the drawing box's stores, code that is never reached, further forms, the law's head. -/
namespace DL
open PySem PySem.Spec PyProof.Rows L2
section
variable {X : Cx} {W : WX} {ea : Option (Addr × Addr)} {a b c e : Expr} {es : List Expr} {f g : Sls → M D} {r : Sls → M (List D)} {p pos : Pos} {s t : SM}

/-! ### code that is never reached -/
def sNever : SM := fun _ _ => .bad
def eNever : Sls → M D := fun _ => M.bad
theorem dss_never {ss : List Stmt} : DSs X W ea ss sNever := ⟨fun _ _ _ _ _ _ h => by obtain ⟨_, _, _, _, _, _, _, h⟩ := h; exact h.elim⟩
theorem ds_never {st : Stmt} : DS X W ea st sNever := ⟨fun _ _ _ _ _ _ h => by obtain ⟨_, _, _, _, _, _, _, h⟩ := h; exact h.elim⟩
theorem de_never : DE X W ea e eNever := ⟨fun _ _ _ _ _ _ h => by obtain ⟨_, _, _, _, _, _, h⟩ := h; exact h.elim⟩

/-! ### names of the module, tests -/
/-- an int of the module -/
theorem de_gint {x : Str} {n : Int} {tk : Tok} (hg : Gl X x) (hm : X.mg x = some (.int n tk)) (hd : (x == ("__debug__" : Str)) = false := by decide) : DE X W ea (.Name x pos) (eC (.int n)) := de_c (v := .int n) (fun _ _ _ => .int n) (pe_glob hg hm ⟨tk, rfl⟩ hd)
def cIf (q u v : Sls → M Bool) : Sls → M Bool := fun ρ => q ρ >>= fun x => if x then u ρ else v ρ
theorem dt_ifE {q u v : Sls → M Bool} (hc : DT X W ea c q) (ha : DT X W ea a u) (hb : DT X W ea b v) : DT X W ea (.IfExp c a b pos) (cIf q u v) := ⟨fun pins s σ H Q I h => by
  refine PyProof.Rows.isTrue_IfExp (thn (hc.run pins s σ H (fun z H1 => (if z then tT X.K X.mg W ea u else tT X.K X.mg W ea v) σ H1 Q) I (tG_bind h fun bx O ω ρ x d1 H1 he hg hx hr => ?_)) fun z s1 ⟨H1, I1, q1⟩ => ?_)
  · cases hx
    cases x with
    | true => exact ⟨bx, O, ω, ρ, he, hg, hr⟩
    | false => exact ⟨bx, O, ω, ρ, he, hg, hr⟩
  · cases z with
    | true => exact ha.run pins s1 σ H1 Q I1 q1
    | false => exact hb.run pins s1 σ H1 Q I1 q1⟩

/-! ### x, y = e, [] -/
def parNK (i j : Nat) : D → SM := fun d ρ ω => if i < ρ.length ∧ j < ρ.length then .nx ((ρ.set i (.val d)).set j (.own (.lst []))) ω else .bad
def sParN (i j : Nat) (B : List Nat) (f : Sls → M D) : SM := sEv B f (parNK i j)
theorem ds_parN {i j : Nat} {x y : Str} {B : List Nat} {px py pt : Pos} {kt k2 pt2 p3} (hc : X.calm = true) (hN : X.N.Nodup) (hi : X.N[i]? = some x) (hj : X.N[j]? = some y) (hij : i ≠ j) (hx : X.env.scope.names.lookup x = some .local) (hy : X.env.scope.names.lookup y = some .local) (he : DE X W ea e f)
    (hst : starEach [e, .List [] p3] X.env = (false, eval e X.env) :: starEach [.List [] p3] X.env := by rfl) (hst2 : starEach [.List [] p3] X.env = (false, eval (.List [] p3) X.env) :: starEach [] X.env := by rfl)
    (hw : swappedStores [.Tuple [.Name x px, .Name y py] kt pt] (.Tuple [e, .List [] p3] k2 pt2) X.env = pure (some [x, y]) := by rfl) (hs : swapsWithSole [.Tuple [.Name x px, .Name y py] kt pt] (.Tuple [e, .List [] p3] k2 pt2) pos.line X.env = pure false := by rfl) :
    DS X W ea (.Assign [.Tuple [.Name x px, .Name y py] kt pt] (.Tuple [e, .List [] p3] k2 pt2) pos) (sParN i j B f) := by
  refine ps_weak (ps_par hc hN hi hj hij hx hy (pa_cons he (pa_cons (pe_lst pa_nil) pa_nil hst2) hst) hw hs) fun D σ H h => ?_
  obtain ⟨bx, O, U, ω, ρ, st, g, h⟩ := h
  refine ev_go st g h fun d v ρ1 U1 ω1 H1 s1 u1 st1 g1 hv hf => ?_
  unfold parNK at hf
  by_cases z : i < ρ1.length ∧ j < ρ1.length
  · rw [if_pos z] at hf
    refine ⟨Nat.zero_le _, fun p hp => ⟨_, _, rfl, ?_⟩⟩
    obtain ⟨st2, g2⟩ := (st1.set (i := i) hv z.1).newOwn (i := j) (o := .lst []) (d := .lst []) g1 hp (by rw [List.length_set]; exact z.2) (fun _ z => by cases z) ⟨[], upd_same, .nil⟩
    exact hf _ _ (p :: U1) (Stp.of_out (Out.new hp)) (fun a z => (List.mem_cons.mp z).elim (fun y => .inr (by rw [y]; exact hp)) .inl) st2 g2
  · rw [if_neg z] at hf; exact hf.elim

/-! ### box[j] = e -/
def boxK (i : Nat) (y : D) : D → SM := fun jd ρ ω => match (ρ[i]? : Option Sl), y, jd with
  | some (.val .box), .int n, .int j => if 1 ≤ j ∧ j ≤ ω.2.length then .nx ρ (ω.1, ω.2.set (j - 1).toNat n) else .bad
  | _, _, _ => .bad
def sBox (i : Nat) (f g : Sls → M D) : SM := fun ρ ω => match (ρ[i]? : Option Sl) with
  | some (.val .box) => sEv [] f (fun y => sEv [] g (boxK i y)) ρ ω
  | _ => .bad
theorem stp_box {bx : Option Addr} {O U : List Addr} {K : Fr} {mg : Mg} {H : Hp} {σ : L2.St} {ρ : Sls} {ω : Om} {q a0 : Addr} (st : StOk K mg bx ea O U H σ ρ) (g : Good bx (U ++ O) H ω) (hb : bx = some q) (h0 : a0 ∉ U ++ O) (e0 : H a0 = some (.lst (ω.1.map V.int))) (e1 : H q = some (.lst (.ref a0 :: ω.2.map V.int))) (k : List Int) :
    StOk K mg bx ea O U (upd H q (.lst (.ref a0 :: k.map V.int))) σ ρ ∧ Good bx (U ++ O) (upd H q (.lst (.ref a0 :: k.map V.int))) (ω.1, k) ∧ Stp bx U H (upd H q (.lst (.ref a0 :: k.map V.int))) := by
  have hq : q ∈ O := st.bxO q hb
  have hq' : q ∈ U ++ O := List.mem_append_right _ hq
  have o : Out (U ++ O) H (upd H q (.lst (.ref a0 :: k.map V.int))) := Out.upd hq'
  have ne : a0 ≠ q := fun z => h0 (by rw [z]; exact hq')
  refine ⟨⟨st.len, fun i d h => ?_, fun i d h => ?_, st.inj, fun i fs h => ?_, st.dis, st.bxO⟩, ⟨fun b z => ?_, fun b e => ?_⟩, ⟨fun b ob eb n => ?_, fun b ob eb => ?_, fun b e a1 xs eb => ?_⟩⟩
  · obtain ⟨v, h1, h2⟩ := st.val i d h
    exact ⟨v, h1, h2.step o⟩
  · obtain ⟨x, h1, h2, h3⟩ := st.own i d h
    exact ⟨x, h1, h2, h3.step o fun ob eb => by rw [upd_ne (fun z => st.dis x h2 (by rw [z]; exact hq))]; exact eb⟩
  · obtain ⟨x, dd, gs, h2, h3, h4, h5, h6⟩ := st.exn i fs h
    exact ⟨x, dd, gs, h2, h3, h4, o _ _ h5 h4, Paired.mapP h6 fun p q z => ⟨z.1, z.2.step o⟩⟩
  · by_cases y : b = q
    · rw [y]; exact ⟨_, upd_same, fun _ z => by cases z⟩
    · rw [upd_ne y]; exact g.nt b z
  · rw [hb] at e
    cases e
    exact ⟨hq', a0, h0, by rw [upd_ne ne]; exact e0, upd_same⟩
  · rw [upd_ne (fun y => n (List.mem_append_left _ (by rw [y, hb]; exact List.mem_singleton.mpr rfl)))]; exact eb
  · by_cases y : b = q
    · rw [y]; exact ⟨_, upd_same⟩
    · rw [upd_ne y]; exact ⟨ob, eb⟩
  · rw [hb] at e
    cases e
    rw [e1] at eb
    cases eb
    exact ⟨_, _, upd_same, .inl rfl⟩
theorem ds_box {i : Nat} {x : Str} {ix : Expr} {px pix : Pos} (hN : X.N[i]? = some x) (he : DE X W ea e f) (hix : DE X W ea ix g) (hv : Vis X.env.scope x := by first | exact Or.inl rfl | exact Or.inr (Or.inl rfl) | exact Or.inr (Or.inr rfl)) (hd : (x == ("__debug__" : Str)) = false := by decide) (hcd : (x == ("__classdict__" : Str)) = false := by decide)
    (ha : ∀ v, assign (.Subscript (.Name x px) ix pix) X.env v = (do let ov ← holding [v] (eval (.Name x px) X.env); let iv ← holding [v, ov] (eval ix X.env); standAt pix; holding [v, ov, iv] (setItem ov iv v); release [v, ov, iv] []) := by intro _; rfl)
    (hs : swapsWithSole [.Subscript (.Name x px) ix pix] e pos.line X.env = pure false := by rfl) (hw : swappedStores [.Subscript (.Name x px) ix pix] e X.env = pure none := by rfl) (h1 : (assignEach [.Subscript (.Name x px) ix pix] X.env).map (·.2) = [assign (.Subscript (.Name x px) ix pix) X.env] := by rfl) :
    DS X W ea (.Assign [.Subscript (.Name x px) ix pix] e pos) (sBox i f g) := by
  refine ps_weak (ps_asg he (pg_sub (pe_var hN hv hd hcd) hix set_list ha) hs hw h1) fun D σ H h => ?_
  obtain ⟨bx, O, U, ω, ρ, st, gd, h⟩ := h
  unfold sBox at h
  split at h
  · rename_i ei
    obtain ⟨v0, hv0, hd0⟩ := st.val i _ ei
    cases hd0 with
    | @box q hb =>
      refine ev_go st gd h fun y v ρ1 U1 ω1 H1 s1 u1 st1 g1 hy hf => ⟨.ref q, hv0, ?_⟩
      show tE X.K X.mg W ea g σ H1 _
      refine ev_go st1 g1 hf fun jd jv ρ3 U3 ω3 H3 s3 u3 st3 g3 hj hf3 => ?_
      unfold boxK at hf3
      split at hf3
      · rename_i n j e3
        cases hj
        by_cases z : 1 ≤ j ∧ j ≤ ω3.2.length
        · rw [if_pos z] at hf3
          cases hy
          obtain ⟨h1, a0, h2, h3, h4⟩ := g3.bx q hb
          obtain ⟨st4, g4, s4⟩ := stp_box st3 g3 hb h2 h3 h4 (ω3.2.set (j - 1).toNat n)
          have hix : ixN (V.ref a0 :: ω3.2.map V.int).length j = some j.toNat := by
            unfold ixN
            rw [if_pos (by omega), if_pos (by simp; omega)]
          have hset : (V.ref a0 :: ω3.2.map V.int).set j.toNat (.int n) = .ref a0 :: (ω3.2.set (j - 1).toNat n).map V.int := by
            have e : j.toNat = (j - 1).toNat + 1 := by omega
            rw [e, List.set_cons_succ, List.map_set]
          exact ⟨q, _, j, _, rfl, rfl, h4, hix, by rw [hset]; exact hf3 σ _ U3 s4 (fun a z => .inl z) st4 g4⟩
        · rw [if_neg z] at hf3; exact hf3.elim
      · exact hf3.elim
  · exact h.elim
end
end DL
end

section
set_option Elab.async false
set_option linter.all false
set_option maxRecDepth 100000
set_option maxHeartbeats 2000000
set_option autoImplicit false
/-! DL18: the law's own def: box = _law_box(script), then the rest. -/
namespace DL
open PySem PySem.Spec PyProof.Rows L2
def intsD : List D → Option (List Int)
  | [] => some []
  | .int i :: r => (intsD r).map (i :: ·)
  | _ => none
theorem intsD_ok : ∀ {ds : List D} {is : List Int}, intsD ds = some is → ds = is.map D.int
  | [], is, h => by cases h; rfl
  | d :: r, is, h => by
    cases d with
    | int i =>
      obtain ⟨t, e, rfl⟩ := Option.map_eq_some_iff.mp (show (intsD r).map (i :: ·) = some is from h)
      rw [intsD_ok e]; rfl
    | _ => cases h
def boxOf : D → Option Om
  | .lst (.lst a :: b) => (intsD a).bind fun is => (intsD b).map fun js => (is, js)
  | _ => none
/-- what the law answers for a script -/
def lawM (N i : Nat) (f : Sls → M D) (s : SM) (ns : List Int) : Option Bool := match (f (startS N [.scr ns])).run ([], []) with
  | .ok d _ => (boxOf d).bind fun ω => if i < N then (match s ((startS N [.scr ns]).set i (.val .box)) ω with
    | .rt (.bl b) _ => some b
    | _ => none) else none
  | _ => none
/-- the law's promise -/
def spLaw (K : Fr) (m : List Int → Option Bool) : Sp := fun vs H Q E => ∃ a ns, vs = [.ref a] ∧ SqL K H a (ns.map V.int) ∧ Only H ∧ m ns = some true ∧ ∀ H', Q (.bl true) H'
def tLaw (K : Fr) (N : List Str) (m : List Int → Option Bool) : TS := fun Dd σ H => ∃ a ns, σ = L2.start N [.ref a] ∧ SqL K H a (ns.map V.int) ∧ Only H ∧ m ns = some true ∧ ∀ H', Dd.rt (.bl true) H'
section
variable {X : Cx} {W : WX} {e : Expr} {f : Sls → M D} {p pos pos' : Pos} {s : SM} {rest : List Stmt}
theorem scr_den {K : Fr} {mg : Mg} {H : Hp} {a : Addr} {ns : List Int} (h : SqL K H a (ns.map V.int)) (o : Only H) : Den K mg none [] H (.ref a) (.scr ns) := by
  rcases h with (h | ⟨ob, h⟩) | h
  · rcases o a with z | ⟨_, _, z⟩
    · rw [h] at z; cases z
    · rw [h] at z; cases z
  · exact .scr (by simp) h
  · exact .kscr fun _ => .inr h
theorem pss_law {i : Nat} {x : Str} (hN : X.N.Nodup) (hi : X.N[i]? = some x) (h0 : i ≠ 0) (hx : Loc X.env.scope x) (he : DE X W none e f) (hr : DSs X W none rest s) (hs : swapsWith e (some (.Name x pos')) pos.line X.env = pure false := by rfl)
    (hf : X.fn x = true ∨ X.env.scope.names.lookup x = some .local := by first | exact .inl rfl | exact .inr rfl) : PSs X (.Assign [.Name x pos'] e pos :: rest) (tLaw X.K X.N (lawM X.N.length i f s)) := by
  refine pss_weak (pss_cons (ps_set hN hi hx he hs hf) hr) fun Dd σ H h => ?_
  obtain ⟨a, ns, rfl, hS, hO, hm, hq⟩ := h
  have hd : DenL X.K X.mg none [] H [.ref a] [.scr ns] := .cons (scr_den hS hO) .nil
  have g0 : Good none [] H ([], []) := ⟨fun _ z => (by cases z), fun _ z => (by cases z)⟩
  have st := stOk_start (N := X.N) hd g0
  have noOther : ∀ {j : Nat} {sl : Sl}, (startS X.N.length [.scr ns])[j]? = some sl → ∃ d, sl = .val d ∨ sl = .no := fun {j sl} h => by
    rcases startS_get h with ⟨d', _, e2⟩ | e2
    · exact ⟨d', .inl e2⟩
    · exact ⟨.non, .inr e2⟩
  have env : EnvOk X.K X.mg none none [] H (L2.start X.N [.ref a]) (startS X.N.length [.scr ns]) := by
    refine ⟨st.len, fun j sl d h1 h2 => ?_, fun j fs h1 => ?_⟩
    · obtain ⟨d', e | e⟩ := noOther h1
      · subst e; cases h2; exact st.val j _ h1
      · subst e; cases h2
    · obtain ⟨d', e | e⟩ := noOther h1 <;> cases e
  refine ⟨none, [], ([], []), _, env, g0, ?_⟩
  unfold lawM at hm
  cases q : (f (startS X.N.length [.scr ns])).run ([], []) with
  | bad => rw [q] at hm; cases hm
  | exc c fs ω => rw [q] at hm; cases hm
  | ok d ω0 =>
    rw [q] at hm
    obtain ⟨ω, e1, hm⟩ := Option.bind_eq_some_iff.mp hm
    by_cases hl : i < X.N.length
    · rw [if_pos hl] at hm
      intro v H1 s1 g1 hv
      unfold boxOf at e1
      split at e1
      · rename_i ds js
        obtain ⟨is, e2, e3⟩ := Option.bind_eq_some_iff.mp e1
        obtain ⟨ks, e4, e5⟩ := Option.map_eq_some_iff.mp e3
        subst e5
        rw [intsD_ok e2, intsD_ok e4] at hv
        cases hv with
        | @lst b vs _ ha hb hden =>
          cases hden with
          | @cons v0 _ vs0 _ h1 h2 =>
            cases h1 with
            | @lst b0 ws _ ha0 hb0 hden0 =>
              have ew := DenL.of_ints hden0
              have ev := DenL.of_ints h2
              subst ew; subst ev
              have ne : b0 ≠ b := fun z => by
                rw [z, hb] at hb0
                cases is <;> cases hb0
              have g2 : Good (some b) [b] H1 (is, ks) := ⟨fun y z => ⟨.lst (.ref b0 :: ks.map V.int), by rw [List.mem_singleton.mp z]; exact hb, fun _ z => (by cases z)⟩, fun y z => by
                cases z
                exact ⟨List.mem_singleton.mpr rfl, b0, fun z => ne (List.mem_singleton.mp z), hb0, hb⟩⟩
              have hl2 : i < (startS X.N.length [.scr ns]).length := by
                unfold startS
                rw [List.length_append, List.length_map, List.length_replicate]
                have : [D.scr ns].length = 1 := rfl
                omega
              have st2 : StOk X.K X.mg (some b) none [b] [] H1 ((L2.start X.N [.ref a]).set i (some (.ref b))) ((startS X.N.length [.scr ns]).set i (.val .box)) := by
                have scr2 : Den X.K X.mg (some b) [b] H1 (.ref a) (.scr ns) := by
                  cases (scr_den hS hO : Den X.K X.mg none [] H (.ref a) (.scr ns)) with
                  | scr z hh =>
                    have hh1 := s1.keep a _ hh (by simp [bxl])
                    exact .scr (fun z => by rw [List.mem_singleton.mp z, hb] at hh1; cases hh1) hh1
                  | kscr hh => exact .kscr hh
                have back : ∀ {j : Nat} {sl : Sl}, ((startS X.N.length [.scr ns]).set i (.val .box))[j]? = some sl → (j = i ∧ sl = .val .box) ∨ (i ≠ j ∧ (startS X.N.length [.scr ns])[j]? = some sl) := fun {j sl} h1 => by
                  by_cases z : i = j
                  · subst z
                    rw [List.getElem?_set_self hl2] at h1
                    cases h1
                    exact .inl ⟨rfl, rfl⟩
                  · rw [List.getElem?_set_ne z] at h1
                    exact .inr ⟨z, h1⟩
                have noOwn : ∀ {j : Nat} {d : DL.D}, ((startS X.N.length [.scr ns]).set i (.val .box))[j]? ≠ some (.own d) := fun {j d} h1 => by
                  rcases back h1 with ⟨_, e⟩ | ⟨_, e⟩
                  · cases e
                  · rcases startS_get e with ⟨d', _, e2⟩ | e2 <;> cases e2
                refine ⟨by rw [List.length_set, List.length_set, st.len], fun j d h => ?_, fun j d h => (noOwn h).elim, fun j k d d' v' h => (noOwn h).elim, fun j fs h => ?_, fun y z => (by cases z), fun y z => by cases z; exact List.mem_singleton.mpr rfl⟩
                · rcases back h with ⟨rfl, e⟩ | ⟨z, e⟩
                  · cases e
                    exact ⟨.ref b, List.getElem?_set_self (by rw [st.len]; exact hl2), .box rfl⟩
                  · rcases startS_get e with ⟨d', e1, e2⟩ | e2
                    · cases e2
                      cases j with
                      | zero =>
                        cases e1
                        exact ⟨.ref a, by rw [List.getElem?_set_ne h0]; rfl, scr2⟩
                      | succ n => cases e1
                    · cases e2
                · rcases back h with ⟨_, e⟩ | ⟨_, e⟩
                  · cases e
                  · rcases startS_get e with ⟨d', _, e2⟩ | e2 <;> cases e2
              refine ⟨some b, [b], [], (is, ks), _, st2, g2, ?_⟩
              cases q2 : s ((startS X.N.length [.scr ns]).set i (.val .box)) (is, ks) with
              | rt d2 ω2 =>
                rw [q2] at hm
                cases d2 with
                | bl bb =>
                  cases hm
                  intro v' H' _ _ hv'
                  cases hv'
                  exact hq H'
                | _ => cases hm
              | _ => rw [q2] at hm; cases hm
      · cases e1
    · rw [if_neg hl] at hm; cases hm
end
section
variable {P : Program} {w : World} {K : PySem.W.Frag} {mg : Mg} {base : Heap} {x qual : Str} {params : Arguments} {body : List Stmt} {scope : Scope} {f : Addr} {fd : FuncData}
theorem law_mk {N : List Str} {ps : Str} {k : Nat} {m : List Int → Option Bool} (F : FunD K x qual params body scope [] [] f fd) (S : FnScope N [ps] scope)
    (hb : ∀ (cdv : Value) (A : Around) (outer : List Env) (s0 : Shared) (H : Hp) (E : XK), Room k (A.deeper (envOfC qual scope s0.heap.objs.size f cdv)) → PSs (cxOf (L2N.CX P w) P w K mg base N qual scope f cdv A outer s0 H E) body (tLaw K N m)) :
    FnOk P w K mg base (L2N.CX P w) (k + 1) f fd [ps] (spLaw K m) := by
  refine F.ok S (fun vs H Q E h => ?_) fun cdv A outer s0 H vs Q E hr hsp => ⟨_, hb cdv A outer s0 H E hr, ?_⟩
  · obtain ⟨a, ns, rfl, _⟩ := h; rfl
  · obtain ⟨a, ns, rfl, h1, h2, h3, h4⟩ := hsp
    exact ⟨a, ns, rfl, h1, h2, h3, h4⟩
end
end DL
end

section
set_option Elab.async false
set_option linter.all false
set_option maxRecDepth 100000
set_option maxHeartbeats 2000000
set_option autoImplicit false
/-! DL19: words for the printed derivations. -/
namespace DL
open PySem PySem.Spec PyProof.Rows L2
def strO1 : List D → Option D := fun ds => match ds with | [.int i] => strO [.int i] | _ => none
section
variable {X : Cx} {W : WX} {ea : Option (Addr × Addr)} {a b c e : Expr} {p pos : Pos} {r : Sls → M (List D)}
theorem cr_strO1 : CallR X (.type "str") (rC X.K X.mg strO1) := cr_strO
def iRng1 (r : Sls → M (List D)) : Sls → M (List D) := fun ρ => r ρ >>= fun xs => ofOpt (match xs with | [x] => rngO [x] | _ => none)
def iRng2 (r : Sls → M (List D)) : Sls → M (List D) := fun ρ => r ρ >>= fun xs => ofOpt (match xs with | [x, y] => rngO [x, y] | _ => none)
def iRng3 (r : Sls → M (List D)) : Sls → M (List D) := fun ρ => r ρ >>= fun xs => ofOpt (match xs with | [x, y, z] => rngO [x, y, z] | _ => none)
theorem di_r1 {tg : Expr} (hg : Gl X "range") (hm : X.mg "range" = none) (ha : DA X W ea [a] r) (hs : starEach [a] X.env = [(false, eval a X.env)] := by rfl) : DI X W ea tg (.Call (.Name "range" p) [a] [] pos) (iRng1 r) := di_rng1 hg hm ha hs
theorem di_r2 {tg : Expr} (hg : Gl X "range") (hm : X.mg "range" = none) (ha : DA X W ea [a, b] r) (hs : starEach [a, b] X.env = [(false, eval a X.env), (false, eval b X.env)] := by rfl) (hs2 : starEach [b] X.env = [(false, eval b X.env)] := by rfl) : DI X W ea tg (.Call (.Name "range" p) [a, b] [] pos) (iRng2 r) := di_rng2 hg hm ha hs hs2
theorem di_r3 {tg : Expr} (hg : Gl X "range") (hm : X.mg "range" = none) (ha : DA X W ea [a, b, c] r) (hs : starEach [a, b, c] X.env = (false, eval a X.env) :: starEach [b, c] X.env := by rfl) (hpl : (backTo pos (starEach [b, c] X.env)).any (·.1) = false := by rfl) : DI X W ea tg (.Call (.Name "range" p) [a, b, c] [] pos) (iRng3 r) := di_rng3 hg hm ha hs hpl
theorem de_gintE {x : Str} {n : Int} (hg : Gl X x) (hm : ∃ tk, X.mg x = some (.int n tk)) (hd : (x == ("__debug__" : Str)) = false := by decide) : DE X W ea (.Name x pos) (eC (.int n)) := let ⟨_, h⟩ := hm; de_gint hg h hd
theorem pkd_ownE {x : Str} (hg : Gl X x) (hm : ∃ C, X.mg x = some (.ref C)) (hd : (x == ("__debug__" : Str)) = false := by decide) : PKd X (.Name x pos) (.own x) := let ⟨_, h⟩ := hm; pkd_own hg h hd
theorem tk0 {P : Program} {w : World} {K : PySem.W.Frag} {mg : Str → Option Value} {base : Heap} {N : List Str} {qual : Str} {scope : Scope} {f : Addr} {cd : Value} {A : Around} {outer : List Env} {s : Shared} {H : Hp} {E : XK} : L2N.Takes (cxOf (L2N.CX P w) P w K mg base N qual scope f cd A outer s H E) (WEn E) :=
  L2N.takes_of rfl rfl rfl rfl
def blkB (N : List Str) (sc scope : Scope) (own : List (Str × Nat)) : Bool := (scope.kind == .function) && (scope.names.all fun y => scope.names.lookup y.1 == some y.2) && (own.all fun p => N[p.2]? == some p.1) && (scope.names.all fun y => !(y.2 == .free) || (sc.names.lookup y.1 == some .cell || sc.names.lookup y.1 == some .free)) &&
  (scope.names.all fun y => !(y.2 == .local || y.2 == .cell) || ((own.map (·.1)).contains y.1 || !N.contains y.1))
theorem blk_ok {N : List Str} {sc scope : Scope} {own : List (Str × Nat)} (h : blkB N sc scope own = true) : BlkOk N sc scope own := by
  unfold blkB at h
  simp only [Bool.and_eq_true, List.all_eq_true, Bool.or_eq_true, Bool.not_eq_true', beq_iff_eq, beq_eq_false_iff_ne, List.contains_iff_mem] at h
  obtain ⟨⟨⟨⟨h1, h2⟩, h3⟩, h4⟩, h5⟩ := h
  refine ⟨h1, h2, h3, fun y hy e => ?_, fun y hy e => ?_⟩
  · exact (h4 y hy).resolve_left fun z => z e
  · rcases h5 y hy with z | z | z
    · rcases e with e | e <;> simp [e] at z
    · exact .inl z
    · exact .inr fun q => by simp [q] at z
theorem hp0 {P : Program} {w : World} {K : PySem.W.Frag} {mg : Str → Option Value} {base : Heap} {N : List Str} {qual : Str} {scope : Scope} {f : Addr} {cd : Value} {A : Around} {outer : List Env} {s : Shared} {H : Hp} {E : XK} :
    PassesOwn (model (cxOf (L2N.CX P w) P w K mg base N qual scope f cd A outer s H E).prog (cxOf (L2N.CX P w) P w K mg base N qual scope f cd A outer s H E).w) (cxOf (L2N.CX P w) P w K mg base N qual scope f cd A outer s H E).A (cxOf (L2N.CX P w) P w K mg base N qual scope f cd A outer s H E).env (cxOf (L2N.CX P w) P w K mg base N qual scope f cd A outer s H E).xe := passes_of rfl
theorem tkB {X : Cx} : L2N.Takes X W0 := fun u s' h => by
  obtain ⟨_, _, _, _, _, _, _, _, _, _, _, _, _, _, _, _, z⟩ := h
  exact z.elim
theorem hotS {X : Cx} {C : Addr} {dd a : Addr} {oe : Obj} {pn : List (Addr × Obj)} (hz : L2N.Zn (.ref C) (some dd) oe) (hf : ∃ vs, oe.data = .fields vs) : L2H.HotC (X.suite a ((a, oe) :: pn)) := by
  obtain ⟨vs, e⟩ := hf
  exact ⟨(a, oe), ⟨rfl, vs, e, hz.2.2 vs e⟩, List.mem_cons_self⟩
theorem roomH {k j : Nat} {A : Around} {h : Option Value} (r : Room k A) (l : j ≤ k) : L2H.RoomH j (A.mark h) := L2H.RoomH.mono (k := k) ⟨r.dp, r.un⟩ l
end
end DL
theorem L2H.RoomH.unitsH {k : Nat} {A : PySem.Around} (r : L2H.RoomH k A) : A.units + 64 < PySem.cLine := by have := r.un; omega
end

section
set_option Elab.async false
set_option linter.all false
set_option maxRecDepth 100000
set_option maxHeartbeats 2000000
set_option autoImplicit false
/-! DL20: reckoning with the mirrors: their parts as equations. -/
namespace DL
open PySem PySem.Spec PyProof.Rows L2
section
variable (i j l n N : Nat) (ρ : Sls) (ω : Om) (d x y z : D) (f g h : Sls → M D) (r it : Sls → M (List D)) (c p q : Sls → M Bool) (s t : SM) (B : List Nat) (T : Tbl)
@[simp] theorem r_var : eVar i ρ = ofOpt ((ρ[i]?).bind Sl.get) := rfl
@[simp] theorem r_c : eC d ρ = pure d := rfl
@[simp] theorem r_bin (op : D → D → Option D) : eBin op f g ρ = f ρ >>= fun x => g ρ >>= fun y => ofOpt (op x y) := rfl
@[simp] theorem r_un (op : D → Option D) : eUn op f ρ = f ρ >>= fun x => ofOpt (op x) := rfl
@[simp] theorem r_cbin (op : D → D → Option Bool) : cBin op f g ρ = f ρ >>= fun x => g ρ >>= fun y => ofOpt (op x y) := rfl
@[simp] theorem r_nil : aNil ρ = pure [] := rfl
@[simp] theorem r_cons : aCons f r ρ = f ρ >>= fun x => r ρ >>= fun xs => pure (x :: xs) := rfl
@[simp] theorem r_tup : eTup r ρ = r ρ >>= fun xs => ofOpt (if xs.length ≤ 16000000 then some (.tup xs) else none) := rfl
@[simp] theorem r_lst : eLst r ρ = r ρ >>= fun xs => ofOpt (if xs.length ≤ 16000000 then some (.lst xs) else none) := rfl
@[simp] theorem r_and : cAnd p q ρ = p ρ >>= fun b => if b then q ρ else pure false := rfl
@[simp] theorem r_or : cOr p q ρ = p ρ >>= fun b => if b then pure true else q ρ := rfl
@[simp] theorem r_not : cNot p ρ = p ρ >>= fun b => pure (!b) := rfl
@[simp] theorem r_if : eIf p f g ρ = p ρ >>= fun b => if b then f ρ else g ρ := rfl
@[simp] theorem r_cif : cIf p q c ρ = p ρ >>= fun b => if b then q ρ else c ρ := rfl
@[simp] theorem r_val : cVal f ρ = f ρ >>= fun x => ofOpt (asB x) := rfl
@[simp] theorem r_tru : cTru f ρ = f ρ >>= fun x => ofOpt (truD x) := rfl
@[simp] theorem r_eand : eAnd f g ρ = f ρ >>= fun x => ofOpt (asB x) >>= fun b => if b then g ρ else pure (.bl false) := rfl
@[simp] theorem r_eor : eOr f g ρ = f ρ >>= fun x => ofOpt (asB x) >>= fun b => if b then pure (.bl true) else g ρ := rfl
@[simp] theorem r_enot : eNot f ρ = f ρ >>= fun x => ofOpt ((asB x).map fun b => .bl (!b)) := rfl
@[simp] theorem r_ix : eIx f g ρ = f ρ >>= fun x => g ρ >>= fun y => ixM x y := rfl
@[simp] theorem r_sl (l h : Sls → M (Option Int)) : eSl f l h ρ = f ρ >>= fun x => l ρ >>= fun lo => h ρ >>= fun hi => ofOpt (slD x lo hi) := rfl
@[simp] theorem r_no : oNo ρ = pure none := rfl
@[simp] theorem r_so : oSo f ρ = f ρ >>= fun x => ofOpt (match x with | .int i => some (some i) | _ => none) := rfl
@[simp] theorem r_fld (n : Str) : eFld T n f ρ = f ρ >>= fun x => ofOpt (fldO T n x) := rfl
@[simp] theorem r_is (q : Kd) : eIs T q f ρ = f ρ >>= fun x => ofOpt ((isK T q x).map D.bl) := rfl
@[simp] theorem r_cb (op : List D → Option D) : eCB op r ρ = r ρ >>= fun xs => ofOpt (op xs) := rfl
@[simp] theorem r_m (op : Str → List D → Option D) : eM op f r ρ = f ρ >>= fun x => ofOpt (asS x) >>= fun z => r ρ >>= fun xs => ofOpt (op z xs) := rfl
@[simp] theorem r_call (m : List D → M D) : eCall m r ρ = r ρ >>= m := rfl
@[simp] theorem r_meth (c nm : Str) (m : List D → M D) : eMeth c nm m f r ρ = f ρ >>= fun x => ofOpt (isObj c nm x) >>= fun _ => r ρ >>= fun xs => m (x :: xs) := rfl
@[simp] theorem r_binM (op : D → D → M D) : eBinM op f g ρ = f ρ >>= fun x => g ρ >>= fun y => op x y := rfl
@[simp] theorem r_cbinM (op : D → D → M D) : cBinM op f g ρ = f ρ >>= fun x => g ρ >>= fun y => op x y >>= fun z => ofOpt (asB z) := rfl
@[simp] theorem r_ival : iVal f ρ = f ρ >>= fun x => ofOpt (seqD x) := rfl
@[simp] theorem r_zip : iZip2 r ρ = r ρ >>= fun xs => ofOpt (zipO xs) := rfl
@[simp] theorem r_rg1 : iRng1 r ρ = r ρ >>= fun xs => ofOpt (match xs with | [x] => rngO [x] | _ => none) := rfl
@[simp] theorem r_rg3 : iRng3 r ρ = r ρ >>= fun xs => ofOpt (match xs with | [x, y, z] => rngO [x, y, z] | _ => none) := rfl
@[simp] theorem r_eL : eL r ρ = r ρ >>= fun xs => pure (.lst xs) := rfl
@[simp] theorem r_eLC (vs : List Nat) (gg : D → Option (List (Nat × D))) : eLC it vs gg c f ρ = it ρ >>= fun xs => lcGo vs gg c f ρ xs [] := rfl
@[simp] theorem r_yes : cYes ρ = pure true := rfl
@[simp] theorem r_lsz : lsz r ρ = r ρ >>= fun xs => ofOpt (if xs.length ≤ 16000000 then some xs else none) := rfl
@[simp] theorem r_lof : lOf f ρ = f ρ >>= fun x => ofOpt (seqD x) := rfl
@[simp] theorem r_cat : lCat f g ρ = f ρ >>= fun x => g ρ >>= fun y => ofOpt (match x, y with | .lst xs, .lst ys => if xs.length + ys.length ≤ 16000000 then some (xs ++ ys) else none | _, _ => none) := rfl
@[simp] theorem r_xf (n : Str) (ns : List Str) : eXf i n ns ρ = ofOpt (match (ρ[i]? : Option Sl) with | some (.exn fs) => if ns.contains n then fs.lookup n else none | _ => none) := rfl
@[simp] theorem k_nil : sNil ρ ω = .nx ρ ω := rfl
@[simp] theorem k_seq : sSeq s t ρ ω = match s ρ ω with | .nx ρ' ω' => t ρ' ω' | r => r := rfl
@[simp] theorem k_ret : sRet B f ρ ω = sEv B f (fun d _ ω => .rt d ω) ρ ω := rfl
@[simp] theorem k_drop : sDrop B f ρ ω = sEv B f (fun _ ρ ω => .nx ρ ω) ρ ω := rfl
@[simp] theorem k_asg (bd : D → Option (List (Nat × D))) : sAsg B f bd ρ ω = sEv B f (fun d ρ ω => match (bd d).bind (setsS ρ) with | some ρ' => .nx ρ' ω | none => .bad) ρ ω := rfl
@[simp] theorem k_if : sIf B c s t ρ ω = cEv B c (fun b => if b then s else t) ρ ω := rfl
@[simp] theorem k_ev (k : D → SM) : sEv B f k ρ ω = match (f (vis B ρ)).run ω with | .ok d ω' => if d.free then k d ρ ω' else k d (frz B ρ) ω' | .exc c fs ω' => .ex c fs (frz B ρ) ω' | .bad => .bad := rfl
@[simp] theorem k_cev (k : Bool → SM) : cEv B c k ρ ω = match (c (vis B ρ)).run ω with | .ok b ω' => k b ρ ω' | .exc c fs ω' => .ex c fs (frz B ρ) ω' | .bad => .bad := rfl
@[simp] theorem k_eva (k : List D → SM) : sEvA B r k ρ ω = match (r (vis B ρ)).run ω with | .ok ds ω' => if freeL ds then k ds ρ ω' else k ds (frz B ρ) ω' | .exc c fs ω' => .ex c fs (frz B ρ) ω' | .bad => .bad := rfl
@[simp] theorem k_par (bd : List D → Option (List (Nat × D))) : sPar B r bd ρ ω = sEvA B r (fun d ρ ω => match (bd d).bind (setsS ρ) with | some ρ' => .nx ρ' ω | none => .bad) ρ ω := rfl
@[simp] theorem k_new : sNew i B r ρ ω = sEvA B r (newK i) ρ ω := rfl
@[simp] theorem k_newK (ds : List D) : newK i ds ρ ω = if i < ρ.length then .nx (ρ.set i (.own (.lst ds))) ω else .bad := rfl
@[simp] theorem k_raise (c : Str) (ns : List Str) : sRaise c ns B r ρ ω = sEvA B r (raiseK c ns) ρ ω := rfl
@[simp] theorem k_raiseK (c : Str) (ns : List Str) (ds : List D) : raiseK c ns ds ρ ω = if ds.length = ns.length ∧ ns.length ≤ 900 then .ex c (ns.zip ds).reverse ρ ω else .bad := rfl
@[simp] theorem k_for (bd : D → Option (List (Nat × D))) : sFor B it bd s ρ ω = match (it (vis B ρ)).run ω with | .ok xs ω' => forS bd s xs (frz B ρ) ω' | .exc c fs ω' => .ex c fs (frz B ρ) ω' | .bad => .bad := rfl
@[simp] theorem k_put (n : Str) : sPut T i n B f ρ ω = sEv B f (putK T i n) ρ ω := rfl
@[simp] theorem k_parN : sParN i j B f ρ ω = sEv B f (parNK i j) ρ ω := rfl
@[simp] theorem k_parNK : parNK i j d ρ ω = if i < ρ.length ∧ j < ρ.length then .nx ((ρ.set i (.val d)).set j (.own (.lst []))) ω else .bad := rfl
@[simp] theorem vis_nil (k : Nat) : visG B k [] = [] := rfl
@[simp] theorem vis_cons (k : Nat) (s : Sl) (r : Sls) : visG B k (s :: r) = s.vis (B.contains k) :: visG B (k + 1) r := rfl
@[simp] theorem frz_nil (k : Nat) : frzG B k [] = [] := rfl
@[simp] theorem frz_cons (k : Nat) (s : Sl) (r : Sls) : frzG B k (s :: r) = s.frz (B.contains k) :: frzG B (k + 1) r := rfl
@[simp] theorem vis_val (b : Bool) : Sl.vis b (.val d) = .val d := rfl
@[simp] theorem vis_no (b : Bool) : Sl.vis b .no = .no := rfl
@[simp] theorem vis_own1 : Sl.vis true (.own d) = .own d := rfl
@[simp] theorem vis_own0 : Sl.vis false (.own d) = .no := rfl
@[simp] theorem vis_exn (b : Bool) (fs : List (Str × D)) : Sl.vis b (.exn fs) = .exn fs := rfl
@[simp] theorem frz_val (b : Bool) : Sl.frz b (.val d) = .val d := rfl
@[simp] theorem frz_no (b : Bool) : Sl.frz b .no = .no := rfl
@[simp] theorem frz_own1 : Sl.frz true (.own d) = .val d := rfl
@[simp] theorem frz_own0 : Sl.frz false (.own d) = .own d := rfl
@[simp] theorem frz_exn (b : Bool) (fs : List (Str × D)) : Sl.frz b (.exn fs) = .exn fs := rfl
@[simp] theorem get_val : Sl.get (.val d) = some d := rfl
@[simp] theorem get_own : Sl.get (.own d) = some d := rfl
@[simp] theorem free_non : D.free .non = true := rfl
@[simp] theorem free_bl (b : Bool) : D.free (.bl b) = true := rfl
@[simp] theorem free_int (b : Int) : D.free (.int b) = true := rfl
@[simp] theorem free_str (b : Str) : D.free (.str b) = true := rfl
@[simp] theorem free_tup (b : List D) : D.free (.tup b) = freeL b := by simp [D.free]
@[simp] theorem freeL_nil : freeL [] = true := by simp [freeL]
@[simp] theorem freeL_cons (x : D) (b : List D) : freeL (x :: b) = (x.free && freeL b) := by simp [freeL]
@[simp] theorem tg_n : tgN i d = some [(i, d)] := rfl
@[simp] theorem tg_2 : tg2 i j [x, y] = some [(i, x), (j, y)] := rfl
@[simp] theorem tg_3 : tg3 i j l [x, y, z] = some [(i, x), (j, y), (l, z)] := rfl
@[simp] theorem sets_nil : setsS ρ [] = some ρ := rfl
@[simp] theorem sets_cons (q : List (Nat × D)) : setsS ρ ((i, d) :: q) = if i < ρ.length then setsS (ρ.set i (.val d)) q else none := rfl
@[simp] theorem ofOpt_none {α : Type} : ofOpt (none : Option α) = M.bad := rfl
@[simp] theorem run_pure {α : Type} (a : α) : (pure a : M α).run ω = .ok a ω := rfl
@[simp] theorem run_bad {α : Type} : (M.bad : M α).run ω = .bad := rfl
@[simp] theorem asB_bl (b : Bool) : asB (.bl b) = some b := rfl
@[simp] theorem add_int (i j : Int) : addD (.int i) (.int j) = some (.int (i + j)) := rfl
@[simp] theorem sub_int (i j : Int) : subD (.int i) (.int j) = some (.int (i - j)) := rfl
@[simp] theorem neg_int (i : Int) : negD (.int i) = some (.int (-i)) := rfl
@[simp] theorem lt_int (i j : Int) : ltD (.int i) (.int j) = some (decide (i < j)) := rfl
@[simp] theorem le_int (i j : Int) : leD (.int i) (.int j) = some (decide (i ≤ j)) := rfl
@[simp] theorem gt_int (i j : Int) : gtD (.int i) (.int j) = some (decide (j < i)) := rfl
@[simp] theorem ge_int (i j : Int) : geD (.int i) (.int j) = some (decide (j ≤ i)) := rfl
theorem M_ext {α : Type} {m n : M α} (h : ∀ ω, m.run ω = n.run ω) : m = n := M.ext h
/-- a body that answers d, whatever the box holds -/
theorem runB_pure {n N : Nat} {s : SM} {ds : List D} {d : D} (h : ds.length = n) (e : ∀ ω, bodyR (s (startS N ds) ω) = .ok d ω) : runB n N s ds = pure d := M.ext fun ω => by
  show (if ds.length = n then bodyR (s (startS N ds) ω) else .bad) = _
  rw [if_pos h, e]
  rfl
end
end DL
end

section
set_option Elab.async false
set_option linter.all false
set_option maxRecDepth 100000
set_option maxHeartbeats 2000000
set_option autoImplicit false
/-! DL21: the head: what is told of classes, exceptions, built-in names. -/
namespace DL
open PySem PySem.Spec PyProof.Rows L2
abbrev six : List String := ["NoneType", "int", "bool", "str", "tuple", "list"]
/-- c: a class of instances, cs: all of them -/
def cfB (K : Fr) (cs : List Str) (c : Str) : Bool :=
  decide (PySem.W.findIn K (.ref (He.ga K c)) "__class__" = some (some (.builtin "object.__class__"))) && (decide (PySem.W.specialIn K (.builtin "object.__class__") "__get__" = some (some (.builtin "getset_descriptor.__get__"))) &&
  (decide (PySem.W.takesIn K (.builtin "object.__class__") = some true) && (decide (PySem.W.mroIn K (He.ga K c) (.type "object") = some true) &&
  ((["int", "bool", "str", "tuple", "list"] : List String).all (fun n => decide (PySem.W.kitOne K (.ref (He.ga K c)) (.type n) = some false)) && (six.all (fun n => decide (PySem.W.kitOne K (.type n) (.ref (He.ga K c)) = some false)) &&
  (cs.all (fun c' => decide (PySem.W.kitOne K (.ref (He.ga K c)) (.ref (He.ga K c')) = some (decide (c = c')))) && (six.all (fun n => PySem.W.notFirst K (He.ga K c) (.type n)) && cs.all (fun c' => PySem.W.notFirst K (He.ga K c) (.ref (He.ga K c'))))))))))
/-- an exception class that stores names -/
def oexB (K : Fr) (x : Str) (names : List Str) : Bool :=
  (match K.lookup (He.ga K x) with
    | some ⟨.type "type", _, .cls cd, sl⟩ => (match cd.mro, sl.toList with
      | .ref C' :: bm, [_, _, _, _, some (.builtin n), _] => C' == He.ga K x && (n == "ValueError.__new__" && (!cd.hasDel && (cd.hasDict && PySem.HandSPX.refsVE bm)))
      | _, _ => false)
    | _ => false) && (decide (PySem.W.findIn K (.ref (He.ga K x)) "__setattr__" = some (some (.builtin "object.__setattr__"))) && (decide (PySem.W.subIn K (.ref (He.ga K x)) (.type "BaseException") = some true) && (decide (PySem.W.typeIn K (.ref (He.ga K x)) = some (.type "type")) &&
    (PySem.W.keepIn K (.ref (He.ga K x)) && (decide (PySem.W.findIn K (.ref (He.ga K x)) "__init__" = some (some (.ref (He.ma K (He.ga K x) "__init__")))) && (decide (PySem.W.typeIn K (.ref (He.ma K (He.ga K x) "__init__")) = some (.type "function")) && (xfB K (He.ga K x) && names.all fun f => decide (PySem.W.findIn K (.ref (He.ga K x)) f = some none))))))))
def bltB (K : Fr) (p : Str × String) : Bool := decide (PySem.W.nsIn K mainGlobals p.1 = some (some (.builtin p.2)))
structure XSpec where
  cs : List Str
  ex : List (Str × List Str)
  bl : List (Str × String)
def xB (S : XSpec) (K : Fr) : Bool := S.cs.all (cfB K S.cs) && (S.ex.all (fun p => oexB K p.1 p.2) && S.bl.all (bltB K))
abbrev AlX : Type := Bool × He.AlD
def obsX (S : XSpec) (fa : List He.Fa) (fn : List He.DefD) (K : Fr) : AlX := (xB S K, He.obsD fa fn K)
def valX (fn : List He.DefD) : AlX := (true, He.valD fn)
structure SaysX (S : XSpec) (fa : List He.Fa) (fn : List He.DefD) (K : Fr) : Prop where
  x : xB S K = true
  d : He.SaysD fa fn K
def obsXG (S : XSpec) (n : Nat) (fa : List He.Fa) (fn : List He.DefD) (g : Addr → Option Obj) : AlX := obsX S fa fn (He.frG g (He.asD g n))
def hookX (S : XSpec) (n : Nat) (fa : List He.Fa) (fn : List He.DefD) : PySem.W.Hook where
  α := AlX
  obs := fun s => obsXG S n fa fn s.heap.get?
  val := fun _ => valX fn
  says := fun _ h => ∃ K : PySem.W.Frag, K.In h ∧ SaysX S fa fn K
  of := fun _ _ e => ⟨_, He.frG_in, congrArg (fun z : AlX => z.1) e, congrArg (fun z : AlX => z.2) e⟩
  keeps := fun _ _ _ ⟨K, hK, c⟩ k => ⟨K, PySem.W.Frag.In.keeps hK k, c⟩
theorem obsXG_eq {S : XSpec} {n : Nat} {fa : List He.Fa} {fn : List He.DefD} {g : Addr → Option Obj} {s : Shared} (h : ∀ a, g a = s.heap.get? a) : obsXG S n fa fn g = (hookX S n fa fn).obs s := by
  have e : g = s.heap.get? := funext h
  rw [e] <;> rfl
section
variable {K : Fr} {h : Heap} {mg : Mg}
theorem two_ {a b : Bool} (h : (a && b) = true) : a = true ∧ b = true := Bool.and_eq_true_iff.mp h
theorem blt_ok (X : K.In h) (G : h.Ns mainGlobals mg) {x : Str} {id : String} (c : bltB K (x, id) = true) : mg x = some (.builtin id) := PySem.W.mg_of X G (of_decide_eq_true c)
theorem cf_ok {cs : List Str} {c : Str} {fs : List Str} (hb : cfB K cs c = true) (hc : Cls K (He.ga K c)) (hn : ∀ f ∈ fs, NoAttr K (He.ga K c) f) : CF K (He.ga K c) fs ∧ (∀ c' ∈ cs, PySem.W.kitOne K (.ref (He.ga K c)) (.ref (He.ga K c')) = some (decide (c = c'))) ∧ (∀ n ∈ six, PySem.W.notFirst K (He.ga K c) (.type n) = true) ∧ ∀ c' ∈ cs, PySem.W.notFirst K (He.ga K c) (.ref (He.ga K c')) = true := by
  obtain ⟨h1, hb⟩ := two_ hb
  obtain ⟨h2, hb⟩ := two_ hb
  obtain ⟨h3, hb⟩ := two_ hb
  obtain ⟨h4, hb⟩ := two_ hb
  obtain ⟨h5, hb⟩ := two_ hb
  obtain ⟨h6, hb⟩ := two_ hb
  obtain ⟨h7, hb⟩ := two_ hb
  obtain ⟨h8, h9⟩ := two_ hb
  exact ⟨⟨hc, hn, of_decide_eq_true h1, of_decide_eq_true h2, of_decide_eq_true h3, of_decide_eq_true h4, fun n hm => of_decide_eq_true (List.all_eq_true.mp h5 n hm), fun n hm => of_decide_eq_true (List.all_eq_true.mp h6 n hm)⟩,
    fun c' hm => of_decide_eq_true (List.all_eq_true.mp h7 c' hm), fun n hm => List.all_eq_true.mp h8 n hm, fun c' hm => List.all_eq_true.mp h9 c' hm⟩
theorem oex_ok {x : Str} {names : List Str} (hb : oexB K x names = true) : OexC K (He.ga K x) ∧ PySem.W.findIn K (.ref (He.ga K x)) "__init__" = some (some (.ref (He.ma K (He.ga K x) "__init__"))) ∧ PySem.W.typeIn K (.ref (He.ma K (He.ga K x) "__init__")) = some (.type "function") ∧ XfC K (He.ga K x) ∧ ∀ f ∈ names, PySem.W.findIn K (.ref (He.ga K x)) f = some none := by
  obtain ⟨h0, hb⟩ := two_ hb
  obtain ⟨h1, hb⟩ := two_ hb
  obtain ⟨h2, hb⟩ := two_ hb
  obtain ⟨h3, hb⟩ := two_ hb
  obtain ⟨h4, hb⟩ := two_ hb
  obtain ⟨h5, hb⟩ := two_ hb
  obtain ⟨h6, hb⟩ := two_ hb
  obtain ⟨h7, h8⟩ := two_ hb
  refine ⟨⟨?_, of_decide_eq_true h1, of_decide_eq_true h2, of_decide_eq_true h3, h4⟩, of_decide_eq_true h5, of_decide_eq_true h6, xfB_ok h7, fun f hm => of_decide_eq_true (List.all_eq_true.mp h8 f hm)⟩
  split at h0
  · rename_i dd cd sl ho
    split at h0
    · rename_i C' bm k0 k1 k2 k3 n k5 hm hs
      simp only [Bool.and_eq_true, beq_iff_eq, Bool.not_eq_true'] at h0
      obtain ⟨rfl, rfl, hdel, hd, hr⟩ := h0
      obtain ⟨nm, bs, mro, ns, qn, hdct, sn, sub, ab, col, del⟩ := cd
      dsimp only at hm hdel hd
      subst hm hdel hd
      have hsl : sl = #[k0, k1, k2, k3, some (.builtin "ValueError.__new__"), k5] := by
        obtain ⟨l⟩ := sl
        simp only at hs
        rw [hs]
      subst hsl
      exact ⟨nm, qn, ns, bs, bm, sn, sub, ab, col, dd, k0, k1, k2, k3, k5, ho, hr⟩
    · cases h0
  · cases h0
end
end DL
end

section
set_option Elab.async false
set_option linter.all false
set_option maxRecDepth 100000
set_option maxHeartbeats 2000000
set_option autoImplicit false
/-! QL: fractions in plain Lean, and how the mirrors reckon with them. -/
namespace DL
open PySem PySem.Spec PyProof.Rows L2

/-! ### sizes -/
def Sm (k : Nat) (n : Int) : Prop := n.natAbs < 2 ^ k
theorem Sm.mono {k l : Nat} {n : Int} (h : Sm k n) (hl : k ≤ l) : Sm l n := Nat.lt_of_lt_of_le h (Nat.pow_le_pow_right (by decide) hl)
theorem Sm.mul {k l : Nat} {i j : Int} (h : Sm k i) (g : Sm l j) : Sm (k + l) (i * j) := by
  unfold Sm at *
  rw [Int.natAbs_mul, Nat.pow_add]
  exact Nat.mul_lt_mul'' h g
theorem Sm.neg {k : Nat} {i : Int} (h : Sm k i) : Sm k (-i) := by unfold Sm at *; rwa [Int.natAbs_neg]
theorem Sm.add {k : Nat} {i j : Int} (h : Sm k i) (g : Sm k j) : Sm (k + 1) (i + j) := by
  unfold Sm at *
  have := Int.natAbs_add_le i j
  rw [Nat.pow_succ]; omega
theorem Sm.sub {k : Nat} {i j : Int} (h : Sm k i) (g : Sm k j) : Sm (k + 1) (i - j) := by
  rw [Int.sub_eq_add_neg]; exact h.add g.neg
theorem Sm.le {k : Nat} {i j : Int} (h : Sm k i) (g : j.natAbs ≤ i.natAbs) : Sm k j := Nat.lt_of_le_of_lt g h
theorem nb_le {k : Nat} {i : Int} (h : Sm k i) : nb i ≤ k := by
  unfold nb Builtin.Int.intBits
  by_cases z : i = 0
  · subst z; simp
  · have : (i == 0) = false := by simpa using z
    rw [this]
    have h0 : i.natAbs ≠ 0 := by omega
    have := (Nat.log2_lt h0).mpr h
    simp only [Bool.false_eq_true, if_false]
    omega
theorem mul_ok {k l : Nat} {i j : Int} (h : Sm k i) (g : Sm l j) (hk : k + l ≤ 134217728 := by omega) : mulD (.int i) (.int j) = some (.int (i * j)) := by
  have h1 := nb_le h
  have h2 := nb_le g
  show (mulI i j).map D.int = _
  unfold mulI
  rw [if_pos (by omega)]
  rfl
theorem fdiv_ok {i j : Int} (h : j ≠ 0) (g : Sm 9000 j) : fdivD (.int i) (.int j) = some (.int (i.fdiv j)) := by
  have hd : Builtin.divisionGoesByPylong i j = false := by
    unfold Builtin.divisionGoesByPylong
    have h0 : j.natAbs ≠ 0 := by omega
    have := (Nat.log2_lt h0).mpr g
    have hz : (j == 0) = false := by simpa using h
    simp only [hz, Bool.false_eq_true, if_false, gt_iff_lt, Bool.and_eq_false_iff, decide_eq_false_iff_not]
    left
    have : j.natAbs.log2 / 30 < 300 := Nat.div_lt_of_lt_mul (by omega)
    omega
  show (fdivI i j).map D.int = _
  unfold fdivI
  rw [if_pos ⟨h, hd⟩]
  rfl
theorem mod_ok {i j : Int} (h : j ≠ 0) : modD (.int i) (.int j) = some (.int (i.fmod j)) := by
  show (modI i j).map D.int = _
  unfold modI
  rw [if_pos h]; rfl

/-! ### fractions -/
abbrev Q2 := Int × Int
def pr (q : Q2) : D := .tup [.int q.1, .int q.2]
def ordQ (a b : Q2) : Int := (a.1 * b.2 - b.1 * a.2).sign
def ltQ (a b : Q2) : Prop := a.1 * b.2 < b.1 * a.2
instance (a b : Q2) : Decidable (ltQ a b) := by unfold ltQ; infer_instance
/-- in lowest terms, of such a size -/
structure VQ (k : Nat) (q : Q2) : Prop where
  pos : 0 < q.2
  cop : Int.gcd q.1 q.2 = 1
  s1 : Sm k q.1
  s2 : Sm k q.2
theorem VQ.mono {k l : Nat} {q : Q2} (h : VQ k q) (hl : k ≤ l) : VQ l q := ⟨h.pos, h.cop, h.s1.mono hl, h.s2.mono hl⟩
def sgn (b : Int) (g : Nat) : Int := if b < 0 then -(g : Int) else g
def lowQ (a b : Int) : Q2 := (a.fdiv (sgn b (Int.gcd a b)), b.fdiv (sgn b (Int.gcd a b)))
theorem lowQ_eq {a b : Int} (h : b ≠ 0) : ∃ g : Int, g ≠ 0 ∧ (0 < b → 0 < g) ∧ g.natAbs = Int.gcd a b ∧ a = g * (lowQ a b).1 ∧ b = g * (lowQ a b).2 ∧ 0 < (lowQ a b).2 ∧ Int.gcd (lowQ a b).1 (lowQ a b).2 = 1 := by
  have g0 : 0 < Int.gcd a b := Int.gcd_pos_of_ne_zero_right a h
  obtain ⟨g, hg⟩ : ∃ g, g = sgn b (Int.gcd a b) := ⟨_, rfl⟩
  have habs : g.natAbs = Int.gcd a b := by
    rw [hg]; unfold sgn; split <;> omega
  have gne : g ≠ 0 := by omega
  have da : g ∣ a := Int.natAbs_dvd_natAbs.mp (by rw [habs]; have := Int.natAbs_dvd_natAbs.mpr (Int.gcd_dvd_left (a := a) (b := b)); simpa using this)
  have db : g ∣ b := Int.natAbs_dvd_natAbs.mp (by rw [habs]; have := Int.natAbs_dvd_natAbs.mpr (Int.gcd_dvd_right (a := a) (b := b)); simpa using this)
  have ea : a = g * (lowQ a b).1 := by
    show a = g * (a.fdiv (sgn b (Int.gcd a b)))
    rw [← hg, Int.mul_comm]
    exact (Int.fdiv_mul_cancel da).symm
  have eb : b = g * (lowQ a b).2 := by
    show b = g * (b.fdiv (sgn b (Int.gcd a b)))
    rw [← hg, Int.mul_comm]
    exact (Int.fdiv_mul_cancel db).symm
  refine ⟨g, gne, fun hb => ?_, habs, ea, eb, ?_, ?_⟩
  · rw [hg]; unfold sgn; rw [if_neg (by omega)]; omega
  · rcases Int.lt_or_gt_of_ne h with hb | hb
    · have gn : g < 0 := by rw [hg]; unfold sgn; rw [if_pos hb]; omega
      rcases Int.lt_trichotomy (lowQ a b).2 0 with z | z | z
      · have := Int.mul_pos_of_neg_of_neg gn z; omega
      · rw [z] at eb; omega
      · exact z
    · have gp : 0 < g := by rw [hg]; unfold sgn; rw [if_neg (by omega)]; omega
      rcases Int.lt_trichotomy (lowQ a b).2 0 with z | z | z
      · have := Int.mul_neg_of_pos_of_neg gp z; omega
      · rw [z] at eb; omega
      · exact z
  · have e : Int.gcd a b = g.natAbs * Int.gcd (lowQ a b).1 (lowQ a b).2 := by
      rw [← Int.gcd_mul_left]
      rw [← ea, ← eb]
    rw [habs] at e
    exact Nat.eq_of_mul_eq_mul_left g0 (by omega)
theorem lowQ_valid {k : Nat} {a b : Int} (h : b ≠ 0) (ha : Sm k a) (hb : Sm k b) : VQ k (lowQ a b) := by
  obtain ⟨g, g0, _, _, ea, eb, hp, hc⟩ := lowQ_eq (a := a) h
  have ge : 1 ≤ g.natAbs := by omega
  refine ⟨hp, hc, ha.le ?_, hb.le ?_⟩
  · have e := congrArg Int.natAbs ea
    rw [Int.natAbs_mul] at e
    rw [e]
    exact Nat.le_mul_of_pos_left _ (by omega)
  · have e := congrArg Int.natAbs eb
    rw [Int.natAbs_mul] at e
    rw [e]
    exact Nat.le_mul_of_pos_left _ (by omega)
/-- fractions in lowest terms are equal when they are as great -/
theorem vq_eq {k l : Nat} {a b : Q2} (ha : VQ k a) (hb : VQ l b) (h : a.1 * b.2 = b.1 * a.2) : a = b := by
  have d1 : a.2 ∣ b.2 := by
    have : a.2 ∣ b.2 * a.1 := ⟨b.1, by rw [Int.mul_comm b.2, h, Int.mul_comm]⟩
    have c : Nat.Coprime a.2.natAbs a.1.natAbs := by rw [Nat.coprime_comm]; exact ha.cop
    have := Int.natAbs_dvd_natAbs.mpr this
    rw [Int.natAbs_mul] at this
    exact Int.natAbs_dvd_natAbs.mp (c.dvd_of_dvd_mul_right this)
  have d2 : b.2 ∣ a.2 := by
    have : b.2 ∣ a.2 * b.1 := ⟨a.1, by rw [Int.mul_comm a.2, ← h, Int.mul_comm]⟩
    have c : Nat.Coprime b.2.natAbs b.1.natAbs := by rw [Nat.coprime_comm]; exact hb.cop
    have := Int.natAbs_dvd_natAbs.mpr this
    rw [Int.natAbs_mul] at this
    exact Int.natAbs_dvd_natAbs.mp (c.dvd_of_dvd_mul_right this)
  have e2 : a.2 = b.2 := Int.le_antisymm (Int.le_of_dvd hb.pos d1) (Int.le_of_dvd ha.pos d2)
  have e1 : a.1 = b.1 := by
    rw [e2] at h
    exact Int.eq_of_mul_eq_mul_right (by have := hb.pos; omega) h
  exact Prod.ext e1 e2
theorem lowQ_scaled {k : Nat} {q : Q2} {f : Int} (h : VQ k q) (hf : f ≠ 0) : lowQ (q.1 * f) (q.2 * f) = q := by
  have hb : q.2 * f ≠ 0 := Int.mul_ne_zero (by have := h.pos; omega) hf
  obtain ⟨g, g0, _, _, ea, eb, hp, hc⟩ := lowQ_eq (a := q.1 * f) hb
  have v : VQ ((lowQ (q.1 * f) (q.2 * f)).1.natAbs + (lowQ (q.1 * f) (q.2 * f)).2.natAbs) (lowQ (q.1 * f) (q.2 * f)) := ⟨hp, hc, Nat.lt_of_le_of_lt (Nat.le_add_right _ _) Nat.lt_two_pow_self, Nat.lt_of_le_of_lt (Nat.le_add_left _ _) Nat.lt_two_pow_self⟩
  refine vq_eq v h ?_
  refine Int.eq_of_mul_eq_mul_left (a := g * f) (Int.mul_ne_zero g0 hf) ?_
  generalize (lowQ (q.1 * f) (q.2 * f)).1 = x at *
  generalize (lowQ (q.1 * f) (q.2 * f)).2 = y at *
  have e1 : g * f * (x * q.2) = (q.1 * f) * (q.2 * f) := by rw [ea]; ac_rfl
  have e2 : g * f * (q.1 * y) = (q.1 * f) * (q.2 * f) := by rw [eb]; ac_rfl
  rw [e1, e2]
theorem lowQ_self {k : Nat} {q : Q2} (h : VQ k q) : lowQ q.1 q.2 = q := by
  have := lowQ_scaled h (f := 1) (by decide)
  simpa using this

/-! ### order -/
theorem ord_neg {a b : Q2} : ordQ a b < 0 ↔ ltQ a b := by
  unfold ordQ ltQ
  rw [Int.sign_neg_iff]
  omega
theorem ord_pos {a b : Q2} : 0 < ordQ a b ↔ ltQ b a := by
  unfold ordQ ltQ
  rw [Int.sign_pos_iff]
  omega
theorem ord_le {a b : Q2} : ordQ a b ≤ 0 ↔ ¬ ltQ b a := by
  rw [← ord_pos]; omega
theorem ord_ge {a b : Q2} : 0 ≤ ordQ a b ↔ ¬ ltQ a b := by
  rw [← ord_neg]; omega
theorem ltQ_irrefl (a : Q2) : ¬ ltQ a a := by unfold ltQ; omega
theorem ltQ_asymm {a b : Q2} (h : ltQ a b) : ¬ ltQ b a := by unfold ltQ at *; omega
theorem leQ_trans {a b c : Q2} (hb : 0 < b.2) (ha : 0 < a.2) (hc : 0 < c.2) (h1 : ¬ ltQ b a) (h2 : ¬ ltQ c b) : ¬ ltQ c a := by
  unfold ltQ at *
  have h1 : a.1 * b.2 ≤ b.1 * a.2 := by omega
  have h2 : b.1 * c.2 ≤ c.1 * b.2 := by omega
  have e1 := Int.mul_le_mul_of_nonneg_right h1 (Int.le_of_lt hc)
  have e2 := Int.mul_le_mul_of_nonneg_right h2 (Int.le_of_lt ha)
  have e3 : b.2 * (a.1 * c.2) ≤ b.2 * (c.1 * a.2) := by
    have x1 : a.1 * b.2 * c.2 = b.2 * (a.1 * c.2) := by ac_rfl
    have x2 : b.1 * a.2 * c.2 = b.1 * c.2 * a.2 := by ac_rfl
    have x3 : c.1 * b.2 * a.2 = b.2 * (c.1 * a.2) := by ac_rfl
    omega
  have := Int.le_of_mul_le_mul_left e3 hb
  omega
theorem lt_leQ {a b c : Q2} (hb : 0 < b.2) (ha : 0 < a.2) (hc : 0 < c.2) (h1 : ltQ a b) (h2 : ¬ ltQ c b) : ltQ a c := by
  unfold ltQ at *
  have h2 : b.1 * c.2 ≤ c.1 * b.2 := by omega
  have e1 := Int.mul_lt_mul_of_pos_right h1 hc
  have e2 := Int.mul_le_mul_of_nonneg_right h2 (Int.le_of_lt ha)
  have e3 : b.2 * (a.1 * c.2) < b.2 * (c.1 * a.2) := by
    have x1 : a.1 * b.2 * c.2 = b.2 * (a.1 * c.2) := by ac_rfl
    have x2 : b.1 * a.2 * c.2 = b.1 * c.2 * a.2 := by ac_rfl
    have x3 : c.1 * b.2 * a.2 = b.2 * (c.1 * a.2) := by ac_rfl
    omega
  exact Int.lt_of_mul_lt_mul_left e3 (Int.le_of_lt hb)
theorem le_ltQ {a b c : Q2} (hb : 0 < b.2) (ha : 0 < a.2) (hc : 0 < c.2) (h1 : ¬ ltQ b a) (h2 : ltQ b c) : ltQ a c := by
  unfold ltQ at *
  have h1 : a.1 * b.2 ≤ b.1 * a.2 := by omega
  have e1 := Int.mul_le_mul_of_nonneg_right h1 (Int.le_of_lt hc)
  have e2 := Int.mul_lt_mul_of_pos_right h2 ha
  have e3 : b.2 * (a.1 * c.2) < b.2 * (c.1 * a.2) := by
    have x1 : a.1 * b.2 * c.2 = b.2 * (a.1 * c.2) := by ac_rfl
    have x2 : b.1 * a.2 * c.2 = b.1 * c.2 * a.2 := by ac_rfl
    have x3 : c.1 * b.2 * a.2 = b.2 * (c.1 * a.2) := by ac_rfl
    omega
  exact Int.lt_of_mul_lt_mul_left e3 (Int.le_of_lt hb)
/-- neither is greater: equal -/
theorem vq_eq' {k l : Nat} {a b : Q2} (ha : VQ k a) (hb : VQ l b) (h1 : ¬ ltQ a b) (h2 : ¬ ltQ b a) : a = b := vq_eq ha hb (by unfold ltQ at *; omega)
/-- loose terms are as great as the lowest ones -/
theorem ltQ_low_left {a b : Int} {c : Q2} (hb : 0 < b) : ltQ (lowQ a b) c ↔ ltQ (a, b) c := by
  obtain ⟨g, g0, hg, _, ea, eb, hp, hc⟩ := lowQ_eq (a := a) (b := b) (by omega)
  have hg := hg hb
  unfold ltQ
  have x1 : a * c.2 = g * ((lowQ a b).1 * c.2) := by rw [← Int.mul_assoc, ← ea]
  have x2 : c.1 * b = g * (c.1 * (lowQ a b).2) := by
    have : g * (c.1 * (lowQ a b).2) = c.1 * (g * (lowQ a b).2) := by ac_rfl
    rw [this, ← eb]
  show _ ↔ a * c.2 < c.1 * b
  rw [x1, x2]
  exact ⟨fun h => Int.mul_lt_mul_of_pos_left h hg, fun h => Int.lt_of_mul_lt_mul_left h (Int.le_of_lt hg)⟩
theorem ltQ_low_right {a b : Int} {c : Q2} (hb : 0 < b) : ltQ c (lowQ a b) ↔ ltQ c (a, b) := by
  obtain ⟨g, g0, hg, _, ea, eb, hp, hc⟩ := lowQ_eq (a := a) (b := b) (by omega)
  have hg := hg hb
  unfold ltQ
  have x1 : a * c.2 = g * ((lowQ a b).1 * c.2) := by rw [← Int.mul_assoc, ← ea]
  have x2 : c.1 * b = g * (c.1 * (lowQ a b).2) := by
    have : g * (c.1 * (lowQ a b).2) = c.1 * (g * (lowQ a b).2) := by ac_rfl
    rw [this, ← eb]
  show _ ↔ c.1 * b < a * c.2
  rw [x1, x2]
  exact ⟨fun h => Int.mul_lt_mul_of_pos_left h hg, fun h => Int.lt_of_mul_lt_mul_left h (Int.le_of_lt hg)⟩
end DL
end

section
set_option Elab.async false
set_option linter.all false
set_option maxRecDepth 100000
set_option maxHeartbeats 2000000
set_option autoImplicit false
/-! TX: texts by their signs, and how the mirrors reckon with them. -/
namespace DL
open PySem PySem.Spec PyProof.Rows L2 SX
open TL (numL tl)
open NumText (AllDigits digitsVal)
/-! ### numbers as texts -/
def zl (n : Int) : List Nat := if n < 0 then 45 :: numL n.natAbs else numL n.natAbs
theorem num_text (n : Int) : Str.ofString (toString n) = S (zl n) := by
  unfold zl
  cases n with
  | ofNat m => exact num_S m
  | negSucc m =>
    rw [if_pos (by omega)]
    refine TL.ext_tl ?_
    show tl (Str.ofString ("-" ++ toString (m + 1))) = 45 :: numL (m + 1)
    rw [TL.tl_ofString, String.toList_append, List.map_append]
    have h := TL.tl_num (m + 1)
    rw [TL.tl_ofString] at h
    rw [← h]
    rfl
theorem str_ok {n : Int} (h : Sm 1900 n) : strO1 [.int n] = some (.str (S (zl n))) := by
  show (if n.natAbs.log2 < 1920 then some (D.str (Str.ofString (toString n))) else none) = _
  rw [num_text, if_pos]
  by_cases z : n.natAbs = 0
  · rw [z]; decide
  · have := (Nat.log2_lt z).mpr h
    omega
theorem zl_ne (n : Int) : zl n ≠ [] := by
  unfold zl; split
  · simp
  · exact TL.numL_ne _
theorem zl_free {n : Int} {s : Nat} (h : s < 48 ∨ 57 < s) (h2 : s ≠ 45) : s ∉ zl n := by
  unfold zl; split
  · rw [List.mem_cons]; intro z; rcases z with z | z
    · exact h2 z
    · exact TL.numL_free h z
  · exact TL.numL_free h
theorem numL_len' {n : Nat} (h : n < 2 ^ 1900) : (numL n).length ≤ 600 := TL.numL_len (by decide) (Nat.lt_trans h (by decide +kernel))
theorem zl_len {n : Int} (h : Sm 1900 n) : (zl n).length ≤ 601 := by
  have := numL_len' h
  unfold zl; split <;> simp <;> omega
theorem numL_head {n : Nat} (h : 0 < n) : (numL n).head? ≠ some 48 := by
  induction n using Nat.strongRecOn with
  | _ n ih =>
    by_cases z : n < 10
    · rw [TL.numL_lt z]; simp; omega
    · rw [TL.numL_step (by omega)]
      have := ih (n / 10) (by omega) (by omega)
      cases e : numL (n / 10) with
      | nil => exact absurd e (TL.numL_ne _)
      | cons c r => rw [e] at this; simpa using this
/-! ### values of digits -/
theorem dv_fold (b : List Nat) : ∀ x : Nat, b.foldl (fun acc c => acc * 10 + (c - 48)) x = x * 10 ^ b.length + digitsVal b := by
  induction b with
  | nil => intro x; simp [digitsVal]
  | cons c r ih =>
    intro x
    unfold digitsVal
    rw [List.foldl_cons, List.foldl_cons, ih, ih (0 * 10 + (c - 48)), List.length_cons, Nat.pow_succ, Nat.add_mul]
    have e : x * 10 * 10 ^ r.length = x * (10 ^ r.length * 10) := by rw [Nat.mul_assoc, Nat.mul_comm 10]
    rw [e]
    simp only [Nat.zero_mul, Nat.zero_add]
    omega
theorem dv_append (a b : List Nat) : digitsVal (a ++ b) = digitsVal a * 10 ^ b.length + digitsVal b := by
  have e : digitsVal (a ++ b) = b.foldl (fun acc c => acc * 10 + (c - 48)) (digitsVal a) := by unfold digitsVal; rw [List.foldl_append]
  rw [e, dv_fold]
theorem dv_lt : ∀ {a : List Nat}, AllDigits a → digitsVal a < 10 ^ a.length
  | [], _ => by simp [digitsVal]
  | c :: r, h => by
    have e : digitsVal (c :: r) = digitsVal [c] * 10 ^ r.length + digitsVal r := dv_append [c] r
    have h1 := h.head
    have h2 : digitsVal [c] = c - 48 := by simp [digitsVal]
    have h3 := dv_lt h.tail
    rw [e, h2, List.length_cons, Nat.pow_succ]
    have h4 : (c - 48) * 10 ^ r.length ≤ 9 * 10 ^ r.length := Nat.mul_le_mul_right _ (by omega)
    omega
/-! ### the mirrors' text operations -/
theorem starts_S (a : List Nat) (c : Nat) : Txt.startswith (S a) (S [c]) = decide (a.head? = some c) := by
  cases a with
  | nil => rfl
  | cons d r =>
    have e : (d :: r).toArray.extract 0 (0 + 1) = #[d] := by simp
    have e2 : Txt.startswith (S (d :: r)) (S [c]) = (decide (0 + 1 ≤ (d :: r).toArray.size) && ((d :: r).toArray.extract 0 (0 + 1) == #[c])) := rfl
    rw [e2, e]
    by_cases z : d = c
    · subst z; simp
    · simp [z]
theorem ascii_S (a : List Nat) : Txt.isascii (S a) = a.all (· < 128) := by
  show a.toArray.all _ = _
  rw [List.all_toArray]
theorem digit_S (a : List Nat) : Txt.isdigit (S a) = (decide (0 < a.length) && a.all Unicode.isDigit) := by
  show (decide (a.toArray.size > 0) && a.toArray.all _) = _
  rw [List.all_toArray]
  rfl
theorem dig_uni {c : Nat} (h : 48 ≤ c ∧ c ≤ 57) : Unicode.isDigit c = true := by
  have e := cls_isdigit c (by omega)
  rw [e]
  have : ∀ d, d < 58 → 48 ≤ d → inR 48 57 ⟨#[d]⟩ = true := by decide +kernel
  exact this c (by omega) h.1
theorem digits_ok {a : List Nat} (h : AllDigits a) (n : a ≠ []) : Txt.isascii (S a) = true ∧ Txt.isdigit (S a) = true := by
  rw [ascii_S, digit_S]
  have : 0 < a.length := List.length_pos_iff.mpr n
  refine ⟨List.all_eq_true.mpr fun c hc => ?_, ?_⟩
  · have := h c hc
    exact decide_eq_true (by omega)
  · rw [Bool.and_eq_true]
    exact ⟨decide_eq_true this, List.all_eq_true.mpr fun c hc => dig_uni (h c hc)⟩
theorem S_length (a : List Nat) : (S a).length = a.length := S_len a
theorem int_digits {a : List Nat} (h : AllDigits a) (n : a ≠ []) (l : a.length ≤ 640) : intO [.str (S a)] = some (.int (digitsVal a : Nat)) := by
  have e := intText_digits (x := S a) h n (by rw [S_length]; omega)
  show (if (S a).length ≤ 640 then (PySem.intText? (S a)).map D.int else none) = _
  rw [if_pos (by rw [S_length]; exact l), e]
  rfl
theorem cut_S (a : List Nat) (lo hi : Option Int) : cutS (S a) lo hi = S ((a.drop (HT.sIx a.length 0 lo)).take (HT.sIx a.length a.length hi - HT.sIx a.length 0 lo)) := by
  unfold cutS
  rw [S_length]
theorem add_S {a b : List Nat} (h : a.length + b.length ≤ 16000000) : addD (.str (S a)) (.str (S b)) = some (.str (S (a ++ b))) := by
  show (if (S a).length + (S b).length ≤ 16000000 then some (D.str (S a ++ S b)) else none) = _
  rw [if_pos (by rw [S_length, S_length]; exact h), S_cat]
theorem len_S {a : List Nat} (h : a.length ≤ 16000000) : lenO [.str (S a)] = some (.int a.length) := by
  show (if (S a).length ≤ 16000000 then some (D.int (S a).length) else none) = _
  rw [S_length, if_pos h]
theorem sl_S {a : List Nat} (lo hi : Option Int) (h : a.length ≤ 16000000) : slD (.str (S a)) lo hi = some (.str (S ((a.drop (HT.sIx a.length 0 lo)).take (HT.sIx a.length a.length hi - HT.sIx a.length 0 lo)))) := by
  show (if (S a).length ≤ 16000000 then some (D.str (cutS (S a) lo hi)) else none) = _
  rw [if_pos (by rw [S_length]; exact h), cut_S]
theorem split_sp {parts : List (List Nat)} (hne : parts ≠ []) (h : ∀ p ∈ parts, 32 ∉ p) (hl : (TL.joinL [32] parts).length ≤ 16000000) : splitO (S (TL.joinL [32] parts)) [.str (S [32])] = some (.lst ((parts.map S).map D.str)) := by
  show (if ((S [32]).length == 0) = false ∧ (S (TL.joinL [32] parts)).length ≤ 16000000 then some (D.lst ((Txt.split (S (TL.joinL [32] parts)) (S [32])).map D.str)) else none) = _
  rw [if_pos ⟨rfl, by rw [S_length]; exact hl⟩, split_S (by simp) (by decide), spl_join hne h]
theorem part_sl {a b : List Nat} (h : 47 ∉ a) (hl : (a ++ 47 :: b).length ≤ 16000000) : partO (S (a ++ 47 :: b)) [.str (S [47])] = some (.tup [.str (S a), .str (S [47]), .str (S b)]) := by
  show (if ((S [47]).length == 0) = false ∧ (S (a ++ 47 :: b)).length ≤ 16000000 then _ else none) = _
  rw [if_pos ⟨rfl, by rw [S_length]; exact hl⟩]
  have e := SX.partition_some (a := a ++ 47 :: b) (b := [47]) (p := a) (q := b) (by simp) (par_head (sep := []) b h)
  rw [e]
theorem part_no {a : List Nat} (h : 47 ∉ a) (hl : a.length ≤ 16000000) : partO (S a) [.str (S [47])] = some (.tup [.str (S a), .str (S []), .str (S [])]) := by
  show (if ((S [47]).length == 0) = false ∧ (S a).length ≤ 16000000 then _ else none) = _
  rw [if_pos ⟨rfl, by rw [S_length]; exact hl⟩]
  rw [SX.partition_none (by simp) (par_head_none (sep := []) h)]
theorem ix_S0 {c : Nat} {r : List Nat} (h : r.length < 16000000) : ixM (.str (S (c :: r))) (.int 0) = pure (.str (S [c])) := by
  show ofOpt (if (S (c :: r)).length ≤ 16000000 then _ else none) = _
  rw [if_pos (by rw [S_length]; simp; omega)]
  have e : atI (S (c :: r)).cps.toList 0 = some c := by
    show atI (c :: r) 0 = some c
    simp [atI, ixN]
  rw [e]
  rfl
theorem eq_S (a b : List Nat) : eqD (.str (S a)) (.str (S b)) = some (decide (a = b)) := by
  show some (decide (S a = S b)) = _
  congr 1
  exact decide_eq_decide.mpr ⟨S_inj, fun h => by rw [h]⟩
theorem ne_S (a b : List Nat) : neD (.str (S a)) (.str (S b)) = some (!decide (a = b)) := by
  show (eqD _ _).map _ = _
  rw [eq_S]; rfl
theorem S_lit {s : String} {l : List Nat} (h : s.toList.map Char.toNat = l := by rfl) : Str.ofString s = S l := TL.ext_tl (by rw [TL.tl_ofString]; exact h)
end DL
end

section
set_option Elab.async false
set_option linter.all false
set_option maxRecDepth 100000
set_option maxHeartbeats 4000000
set_option autoImplicit false
/-! BX: the drawing box, as the mirrors read and write it. -/
namespace DL
open PySem PySem.Spec PyProof.Rows L2
section
variable (i : Nat) (ρ : Sls) (ω : Om) (f g : Sls → M D) (is : List Int) (b1 b2 b3 b4 b5 : Int) {α : Type} (k : D → M α)
@[simp] theorem k_box : sBox i f g ρ ω = match (ρ[i]? : Option Sl) with | some (.val .box) => sEv [] f (fun y => sEv [] g (boxK i y)) ρ ω | _ => .bad := rfl
theorem k_boxK (n j : Int) (h : (ρ[i]? : Option Sl) = some (.val .box)) : boxK i (.int n) (.int j) ρ ω = if 1 ≤ j ∧ j ≤ ω.2.length then .nx ρ (ω.1, ω.2.set (j - 1).toNat n) else .bad := by
  unfold boxK
  rw [h]
theorem bx0 : (ixM .box (.int 0) >>= k).run (is, [b1, b2, b3, b4, b5]) = (k (.lst (is.map D.int))).run (is, [b1, b2, b3, b4, b5]) := rfl
theorem bx1 : (ixM .box (.int 1) >>= k).run (is, [b1, b2, b3, b4, b5]) = (k (.int b1)).run (is, [b1, b2, b3, b4, b5]) := rfl
theorem bx2 : (ixM .box (.int 2) >>= k).run (is, [b1, b2, b3, b4, b5]) = (k (.int b2)).run (is, [b1, b2, b3, b4, b5]) := rfl
theorem bx3 : (ixM .box (.int 3) >>= k).run (is, [b1, b2, b3, b4, b5]) = (k (.int b3)).run (is, [b1, b2, b3, b4, b5]) := rfl
theorem bx4 : (ixM .box (.int 4) >>= k).run (is, [b1, b2, b3, b4, b5]) = (k (.int b4)).run (is, [b1, b2, b3, b4, b5]) := rfl
theorem bx5 : (ixM .box (.int 5) >>= k).run (is, [b1, b2, b3, b4, b5]) = (k (.int b5)).run (is, [b1, b2, b3, b4, b5]) := rfl
@[simp] theorem free_box : D.free .box = false := rfl
@[simp] theorem int_int (n : Int) : intO [.int n] = some (.int n) := rfl
@[simp] theorem len_lst (xs : List D) : lenO [.lst xs] = some (.int xs.length) := rfl
end
theorem eq_intD (i j : Int) : eqD (.int i) (.int j) = some (decide (i = j)) := by
  show eqP (.int i) (.int j) = _
  have h1 : SeqAt.shaped (.int i) = true := rfl
  have h2 : SeqAt.shaped (.int j) = true := rfl
  show (if SeqAt.shaped (.int i) = true ∧ SeqAt.shaped (.int j) = true then some (PyData.eqv (.int i) (.int j)) else none) = _
  rw [if_pos ⟨h1, h2⟩]
  rfl
/-- the box holds what a drawing box holds; T: how often it was drawn from at most -/
structure BX (T : Nat) (ω : Om) : Prop where
  ex : ∃ is b1 b2 b3 b4 b5, ω = (is, [b1, b2, b3, b4, b5]) ∧ 0 ≤ b1 ∧ 0 ≤ b2 ∧ Sm 1048576 b2 ∧ (∀ i ∈ is, Sm 1048576 i) ∧ 0 ≤ b3 ∧ b3 < 2147483563 ∧ 0 ≤ b4 ∧ b4 ≤ T
theorem BX.mono {S T : Nat} {ω : Om} (h : BX S ω) (l : S ≤ T) : BX T ω := by
  obtain ⟨is, b1, b2, b3, b4, b5, e, h1, h2, h3, h4, h5, h6, h7, h8⟩ := h.ex
  exact ⟨is, b1, b2, b3, b4, b5, e, h1, h2, h3, h4, h5, h6, h7, by omega⟩
theorem fmod_rg {a n : Int} (h : 0 < n) : 0 ≤ a.fmod n ∧ a.fmod n < n := ⟨Int.fmod_nonneg_of_pos a h, Int.fmod_lt_of_pos a h⟩
theorem sm_rg {a : Int} {n : Nat} {k : Nat} (h0 : 0 ≤ a) (h1 : a < n) (hk : n ≤ 2 ^ k) : Sm k a := by unfold Sm; omega
theorem sm0 {k : Nat} : Sm k 0 := Nat.two_pow_pos k
theorem fdiv_sm {a n : Int} {k : Nat} (h0 : 0 ≤ a) (hn : 0 < n) (h : Sm k a) : 0 ≤ a.fdiv n ∧ Sm k (a.fdiv n) := by
  have e : a.fdiv n = a / n := Int.fdiv_eq_ediv_of_nonneg a (by omega)
  rw [e]
  have h1 : 0 ≤ a / n := Int.ediv_nonneg h0 (by omega)
  have h2 : a / n ≤ a := Int.ediv_le_self n h0
  exact ⟨h1, h.le (by omega)⟩
end DL
end

section
set_option Elab.async false
set_option linter.all false
set_option maxRecDepth 100000
set_option maxHeartbeats 4000000
set_option autoImplicit false
/-! K06W: the walk of k06, printed by gen.py. -/
namespace K06
open PySem PySem.Spec PyProof.Rows L2 DL
abbrev top (i : Nat) : Stmt := PySem.Challenge.pw_stillabove_k06_stretches_as_sets.main.body.getD i (.Pass ⟨0, 0, 0, 0⟩)

def Tb : Tbl := [("Stretch", ["low", "high", "text"])]
structure Facts (P : Program) (w : World) (K : PySem.W.Frag) (mg : Mg) (base : Heap) : Prop where
  cls : CFs K mg Tb
  g_abs : mg "abs" = none
  g_bool : mg "bool" = none
  g_int : mg "int" = none
  g_isinstance : mg "isinstance" = none
  g_len : mg "len" = none
  g_list : mg "list" = none
  g_range : mg "range" = none
  g_str : mg "str" = none
  g_tuple : mg "tuple" = none
  g_zip : mg "zip" = none
  g_gcd : mg "gcd" = some (.builtin "math.gcd")
  g_CHUNK : ∃ tk, mg "CHUNK" = some (.int (1000000000000000000000000000000000000000000000000000000000000) tk)
  c_Stretch : ∃ Ca, mg "Stretch" = some (.ref Ca)
  nf_Stretch : NFc K mg Tb "Stretch"
  x_BadNumber : XkD P w K mg base 1 "BadNumber" ["text", "why"]
  xc_BadNumber : XcD K mg "BadNumber" ["BadStretch"]
  x_BadStretch : XkD P w K mg base 1 "BadStretch" ["text", "why"]
  xc_BadStretch : XcD K mg "BadStretch" ["BadNumber"]
  f_is_integer : ∃ f fd, mg "is_integer" = some (.ref f) ∧ FunD K "is_integer" "is_integer" (defArgs (top 7)) (defBody (top 7)) (defScope (top 7)) [] [] f fd
  f_is_fraction : ∃ f fd, mg "is_fraction" = some (.ref f) ∧ FunD K "is_fraction" "is_fraction" (defArgs (top 8)) (defBody (top 8)) (defScope (top 8)) [] [] f fd
  f_lowest : ∃ f fd, mg "lowest" = some (.ref f) ∧ FunD K "lowest" "lowest" (defArgs (top 9)) (defBody (top 9)) (defScope (top 9)) [] [] f fd
  f_pair_of : ∃ f fd, mg "pair_of" = some (.ref f) ∧ FunD K "pair_of" "pair_of" (defArgs (top 10)) (defBody (top 10)) (defScope (top 10)) [] [] f fd
  f_sign_of : ∃ f fd, mg "sign_of" = some (.ref f) ∧ FunD K "sign_of" "sign_of" (defArgs (top 11)) (defBody (top 11)) (defScope (top 11)) [] [] f fd
  f_order_of : ∃ f fd, mg "order_of" = some (.ref f) ∧ FunD K "order_of" "order_of" (defArgs (top 12)) (defBody (top 12)) (defScope (top 12)) [] [] f fd
  f_integer_text : ∃ f fd, mg "integer_text" = some (.ref f) ∧ FunD K "integer_text" "integer_text" (defArgs (top 13)) (defBody (top 13)) (defScope (top 13)) [] [] f fd
  f_integer_from : ∃ f fd, mg "integer_from" = some (.ref f) ∧ FunD K "integer_from" "integer_from" (defArgs (top 14)) (defBody (top 14)) (defScope (top 14)) [] [] f fd
  f_pair_text : ∃ f fd, mg "pair_text" = some (.ref f) ∧ FunD K "pair_text" "pair_text" (defArgs (top 15)) (defBody (top 15)) (defScope (top 15)) [] [] f fd
  f_pair_from : ∃ f fd, mg "pair_from" = some (.ref f) ∧ FunD K "pair_from" "pair_from" (defArgs (top 16)) (defBody (top 16)) (defScope (top 16)) [] [] f fd
  f_taken : ∃ f fd, mg "taken" = some (.ref f) ∧ FunD K "taken" "taken" (defArgs (top 18)) (defBody (top 18)) (defScope (top 18)) [] [] f fd
  f__end_text : ∃ f fd, mg "_end_text" = some (.ref f) ∧ FunD K "_end_text" "_end_text" (defArgs (top 20)) (defBody (top 20)) (defScope (top 20)) [] [] f fd
  f__ends_from : ∃ f fd, mg "_ends_from" = some (.ref f) ∧ FunD K "_ends_from" "_ends_from" (defArgs (top 21)) (defBody (top 21)) (defScope (top 21)) [] [] f fd
  i_Stretch : ∃ Ca f fd, mg "Stretch" = some (.ref Ca) ∧ Mk K Ca f ∧ FunD K "__init__" "Stretch.__init__" (defArgs (inClass (top 19) 0)) (defBody (inClass (top 19) 0)) (defScope (inClass (top 19) 0)) [] [] f fd
  f_Stretch___contains__ : ∃ Ca f fd, mg "Stretch" = some (.ref Ca) ∧ Cls K Ca ∧ Meth K Ca "__contains__" f ∧ FunD K "__contains__" "Stretch.__contains__" (defArgs (inClass (top 19) 1)) (defBody (inClass (top 19) 1)) (defScope (inClass (top 19) 1)) [] [] f fd
  f_Stretch___eq__ : ∃ Ca f fd, mg "Stretch" = some (.ref Ca) ∧ Cls K Ca ∧ Meth K Ca "__eq__" f ∧ FunD K "__eq__" "Stretch.__eq__" (defArgs (inClass (top 19) 2)) (defBody (inClass (top 19) 2)) (defScope (inClass (top 19) 2)) [] [] f fd
  f_stretch_of : ∃ f fd, mg "stretch_of" = some (.ref f) ∧ FunD K "stretch_of" "stretch_of" (defArgs (top 22)) (defBody (top 22)) (defScope (top 22)) [] [] f fd
  f_Stretch_within : ∃ Ca f fd, mg "Stretch" = some (.ref Ca) ∧ Cls K Ca ∧ Meth K Ca "within" f ∧ FunD K "within" "Stretch.within" (defArgs (inClass (top 19) 3)) (defBody (inClass (top 19) 3)) (defScope (inClass (top 19) 3)) [] [] f fd
  f_Stretch_hull : ∃ Ca f fd, mg "Stretch" = some (.ref Ca) ∧ Cls K Ca ∧ Meth K Ca "hull" f ∧ FunD K "hull" "Stretch.hull" (defArgs (inClass (top 19) 4)) (defBody (inClass (top 19) 4)) (defScope (inClass (top 19) 4)) [] [] f fd
  f_Stretch_shared : ∃ Ca f fd, mg "Stretch" = some (.ref Ca) ∧ Cls K Ca ∧ Meth K Ca "shared" f ∧ FunD K "shared" "Stretch.shared" (defArgs (inClass (top 19) 5)) (defBody (inClass (top 19) 5)) (defScope (inClass (top 19) 5)) [] [] f fd
  f__law_box : ∃ f fd, mg "_law_box" = some (.ref f) ∧ FunD K "_law_box" "_law_box" (defArgs (top 24)) (defBody (top 24)) (defScope (top 24)) [] [] f fd
  f__law_draw : ∃ f fd, mg "_law_draw" = some (.ref f) ∧ FunD K "_law_draw" "_law_draw" (defArgs (top 25)) (defBody (top 25)) (defScope (top 25)) [] [] f fd
  f__law_from : ∃ f fd, mg "_law_from" = some (.ref f) ∧ FunD K "_law_from" "_law_from" (defArgs (top 26)) (defBody (top 26)) (defScope (top 26)) [] [] f fd
  f__law_of : ∃ f fd, mg "_law_of" = some (.ref f) ∧ FunD K "_law_of" "_law_of" (defArgs (top 27)) (defBody (top 27)) (defScope (top 27)) [] [] f fd
  f__law_gcd : ∃ f fd, mg "_law_gcd" = some (.ref f) ∧ FunD K "_law_gcd" "_law_gcd" (defArgs (top 28)) (defBody (top 28)) (defScope (top 28)) [] [] f fd
  f__law_low : ∃ f fd, mg "_law_low" = some (.ref f) ∧ FunD K "_law_low" "_law_low" (defArgs (top 29)) (defBody (top 29)) (defScope (top 29)) [] [] f fd
  f__law_plus : ∃ f fd, mg "_law_plus" = some (.ref f) ∧ FunD K "_law_plus" "_law_plus" (defArgs (top 30)) (defBody (top 30)) (defScope (top 30)) [] [] f fd
  f__law_sign : ∃ f fd, mg "_law_sign" = some (.ref f) ∧ FunD K "_law_sign" "_law_sign" (defArgs (top 31)) (defBody (top 31)) (defScope (top 31)) [] [] f fd
  f__law_order : ∃ f fd, mg "_law_order" = some (.ref f) ∧ FunD K "_law_order" "_law_order" (defArgs (top 32)) (defBody (top 32)) (defScope (top 32)) [] [] f fd
  f__law_text : ∃ f fd, mg "_law_text" = some (.ref f) ∧ FunD K "_law_text" "_law_text" (defArgs (top 33)) (defBody (top 33)) (defScope (top 33)) [] [] f fd
  f__law_whole : ∃ f fd, mg "_law_whole" = some (.ref f) ∧ FunD K "_law_whole" "_law_whole" (defArgs (top 34)) (defBody (top 34)) (defScope (top 34)) [] [] f fd
  f__law_pair : ∃ f fd, mg "_law_pair" = some (.ref f) ∧ FunD K "_law_pair" "_law_pair" (defArgs (top 35)) (defBody (top 35)) (defScope (top 35)) [] [] f fd
  f__law_truth : ∃ f fd, mg "_law_truth" = some (.ref f) ∧ FunD K "_law_truth" "_law_truth" (defArgs (top 36)) (defBody (top 36)) (defScope (top 36)) [] [] f fd
  f__law_numbers : ∃ f fd, mg "_law_numbers" = some (.ref f) ∧ FunD K "_law_numbers" "_law_numbers" (defArgs (top 37)) (defBody (top 37)) (defScope (top 37)) [] [] f fd
  f__law_ends : ∃ f fd, mg "_law_ends" = some (.ref f) ∧ FunD K "_law_ends" "_law_ends" (defArgs (top 38)) (defBody (top 38)) (defScope (top 38)) [] [] f fd
  f__law_below : ∃ f fd, mg "_law_below" = some (.ref f) ∧ FunD K "_law_below" "_law_below" (defArgs (top 39)) (defBody (top 39)) (defScope (top 39)) [] [] f fd
  f__law_above : ∃ f fd, mg "_law_above" = some (.ref f) ∧ FunD K "_law_above" "_law_above" (defArgs (top 40)) (defBody (top 40)) (defScope (top 40)) [] [] f fd
  f__law_hull : ∃ f fd, mg "_law_hull" = some (.ref f) ∧ FunD K "_law_hull" "_law_hull" (defArgs (top 41)) (defBody (top 41)) (defScope (top 41)) [] [] f fd
  f__law_shared : ∃ f fd, mg "_law_shared" = some (.ref f) ∧ FunD K "_law_shared" "_law_shared" (defArgs (top 42)) (defBody (top 42)) (defScope (top 42)) [] [] f fd
  f__law_holds : ∃ f fd, mg "_law_holds" = some (.ref f) ∧ FunD K "_law_holds" "_law_holds" (defArgs (top 43)) (defBody (top 43)) (defScope (top 43)) [] [] f fd
  f__law_written : ∃ f fd, mg "_law_written" = some (.ref f) ∧ FunD K "_law_written" "_law_written" (defArgs (top 44)) (defBody (top 44)) (defScope (top 44)) [] [] f fd
  f__law_right : ∃ f fd, mg "_law_right" = some (.ref f) ∧ FunD K "_law_right" "_law_right" (defArgs (top 45)) (defBody (top 45)) (defScope (top 45)) [] [] f fd
  f__law_two_right : ∃ f fd, mg "_law_two_right" = some (.ref f) ∧ FunD K "_law_two_right" "_law_two_right" (defArgs (top 46)) (defBody (top 46)) (defScope (top 46)) [] [] f fd
  f__law_three_right : ∃ f fd, mg "_law_three_right" = some (.ref f) ∧ FunD K "_law_three_right" "_law_three_right" (defArgs (top 47)) (defBody (top 47)) (defScope (top 47)) [] [] f fd
  f__law_text_refused : ∃ f fd, mg "_law_text_refused" = some (.ref f) ∧ FunD K "_law_text_refused" "_law_text_refused" (defArgs (top 48)) (defBody (top 48)) (defScope (top 48)) [] [] f fd
  f__law_value_refused : ∃ f fd, mg "_law_value_refused" = some (.ref f) ∧ FunD K "_law_value_refused" "_law_value_refused" (defArgs (top 49)) (defBody (top 49)) (defScope (top 49)) [] [] f fd
noncomputable section
variable {P : Program} {w : World} {K : PySem.W.Frag} {mg : Mg} {base : Heap}
theorem sc_is_integer : FnScope ["value"] ["value"] (defScope (top 7)) := ⟨rfl, rfl, rfl, by decide +kernel, rfl, by decide +kernel, by decide +kernel⟩
def s_is_integer : SM :=
    (sRet [] (eAnd (eIs Tb (.ty "int") (eVar 0)) (eNot (eIs Tb (.ty "bool") (eVar 0)))))
def m_is_integer : List D → M D := runB 1 1 s_is_integer
theorem ok_is_integer (C : Facts P w K mg base) : FnD P w K mg base 1 "is_integer" m_is_integer := by
  obtain ⟨f, fd, hg, F⟩ := C.f_is_integer
  exact ⟨f, fd, ["value"], hg, F.kp, fn_mk (N := ["value"]) (s := s_is_integer) F sc_is_integer (fun cdv A outer s0 H E hr =>
    have sc := sc_is_integer
    (dss_one (ds_ret (B := []) (de_and (de_is C.cls rfl C.g_isinstance (de_var 0) (pkd_ty rfl C.g_int)) (de_one (de_not (de_is C.cls rfl C.g_isinstance (de_var 0) (pkd_ty rfl C.g_bool)))))))), F.bindsN fun _ _ _ _ _ _ us hl => match us, hl with | [_], _ => rfl⟩
theorem sc_is_fraction : FnScope ["value"] ["value"] (defScope (top 8)) := ⟨rfl, rfl, rfl, by decide +kernel, rfl, by decide +kernel, by decide +kernel⟩
def s_is_fraction : SM :=
    (sSeq (sIf [] (cVal (eCall m_is_integer (aCons (eVar 0) aNil)))
     (sRet [] (eC (.bl true)))
     sNil)
    (sSeq (sIf [] (cOr (cNot (cVal (eIs Tb (.ty "tuple") (eVar 0)))) (cBin neD (eCB lenO (aCons (eVar 0) aNil)) (eC (.int 2))))
     (sRet [] (eC (.bl false)))
     sNil)
    (sRet [] (eAnd (eCall m_is_integer (aCons (eIx (eVar 0) (eC (.int 0))) aNil)) (eAnd (eCall m_is_integer (aCons (eIx (eVar 0) (eC (.int 1))) aNil)) (eBin (fun x y => (geD x y).map D.bl) (eIx (eVar 0) (eC (.int 1))) (eC (.int 1))))))))
def m_is_fraction : List D → M D := runB 1 1 s_is_fraction
theorem ok_is_fraction (C : Facts P w K mg base) : FnD P w K mg base 2 "is_fraction" m_is_fraction := by
  obtain ⟨f, fd, hg, F⟩ := C.f_is_fraction
  exact ⟨f, fd, ["value"], hg, F.kp, fn_mk (N := ["value"]) (s := s_is_fraction) F sc_is_fraction (fun cdv A outer s0 H E hr =>
    have sc := sc_is_fraction
    (dss_cons (ds_if (B := []) (dt_val (de_call (ok_is_integer C) tk0 (hr.mono (by decide : 1 ≤ 1)) rfl (da_cons (de_var 0) da_nil)))
     (dss_one (ds_ret (B := []) de_bl))
     dss_nil)
    (dss_cons (ds_if (B := []) (dt_w (dw_or (dt_not (dt_val (de_is C.cls rfl C.g_isinstance (de_var 0) (pkd_ty rfl C.g_tuple)))) (dw_or1 (dt_cmp (op_neDD hr.units) (de_cb cr_lenO rfl C.g_len (da_cons (de_var 0) da_nil)) de_int rfl))))
     (dss_one (ds_ret (B := []) de_bl))
     dss_nil)
    (dss_one (ds_ret (B := []) (de_and (de_call (ok_is_integer C) tk0 (hr.mono (by decide : 1 ≤ 1)) rfl (da_cons (de_ix (de_var 0) de_int) da_nil)) (de_and (de_call (ok_is_integer C) tk0 (hr.mono (by decide : 1 ≤ 1)) rfl (da_cons (de_ix (de_var 0) de_int) da_nil)) (de_one (de_cmp op_geD (de_ix (de_var 0) de_int) de_int rfl))))))))), F.bindsN fun _ _ _ _ _ _ us hl => match us, hl with | [_], _ => rfl⟩
theorem sc_lowest : FnScope ["top", "bottom", "part"] ["top", "bottom"] (defScope (top 9)) := ⟨rfl, rfl, rfl, by decide +kernel, rfl, by decide +kernel, by decide +kernel⟩
def s_lowest : SM :=
    (sSeq (sAsg [] (eCB gcdO (aCons (eVar 0) (aCons (eVar 1) aNil))) (tgN 2))
    (sSeq (sIf [] (cBin ltD (eVar 1) (eC (.int 0)))
     (sAsg [] (eUn negD (eVar 2)) (tgN 2))
     sNil)
    (sRet [] (eTup (aCons (eBin fdivD (eVar 0) (eVar 2)) (aCons (eBin fdivD (eVar 1) (eVar 2)) aNil))))))
def m_lowest : List D → M D := runB 2 3 s_lowest
theorem ok_lowest (C : Facts P w K mg base) : FnD P w K mg base 1 "lowest" m_lowest := by
  obtain ⟨f, fd, hg, F⟩ := C.f_lowest
  exact ⟨f, fd, ["top", "bottom"], hg, F.kp, fn_mk (N := ["top", "bottom", "part"]) (s := s_lowest) F sc_lowest (fun cdv A outer s0 H E hr =>
    have sc := sc_lowest
    (dss_cons (ds_set (i := 2) (B := []) sc.nd rfl (by first | exact Or.inl rfl | exact Or.inr rfl) (de_cf cr_gcdO rfl C.g_gcd (da_cons (de_var 0) (da_cons (de_var 1) da_nil))))
    (dss_cons (ds_if (B := []) (dt_cmp op_ltD (de_var 1) de_int rfl)
     (dss_one (ds_set (i := 2) (B := []) sc.nd rfl (by first | exact Or.inl rfl | exact Or.inr rfl) (de_un un_negD (de_var 2))))
     dss_nil)
    (dss_one (ds_ret (B := []) (de_tup (da_cons (de_bin op_fdivD (de_var 0) (de_var 2)) (da_cons (de_bin op_fdivD (de_var 1) (de_var 2)) da_nil)))))))), F.bindsN fun _ _ _ _ _ _ us hl => match us, hl with | [_, _], _ => rfl⟩
theorem sc_pair_of : FnScope ["value"] ["value"] (defScope (top 10)) := ⟨rfl, rfl, rfl, by decide +kernel, rfl, by decide +kernel, by decide +kernel⟩
def s_pair_of : SM :=
    (sSeq (sIf [] (cVal (eIs Tb (.ty "tuple") (eVar 0)))
     (sRet [] (eCall m_lowest (aCons (eIx (eVar 0) (eC (.int 0))) (aCons (eIx (eVar 0) (eC (.int 1))) aNil))))
     sNil)
    (sRet [] (eTup (aCons (eVar 0) (aCons (eC (.int 1)) aNil)))))
def m_pair_of : List D → M D := runB 1 1 s_pair_of
theorem ok_pair_of (C : Facts P w K mg base) : FnD P w K mg base 2 "pair_of" m_pair_of := by
  obtain ⟨f, fd, hg, F⟩ := C.f_pair_of
  exact ⟨f, fd, ["value"], hg, F.kp, fn_mk (N := ["value"]) (s := s_pair_of) F sc_pair_of (fun cdv A outer s0 H E hr =>
    have sc := sc_pair_of
    (dss_cons (ds_if (B := []) (dt_val (de_is C.cls rfl C.g_isinstance (de_var 0) (pkd_ty rfl C.g_tuple)))
     (dss_one (ds_ret (B := []) (de_call (ok_lowest C) tk0 (hr.mono (by decide : 1 ≤ 1)) rfl (da_cons (de_ix (de_var 0) de_int) (da_cons (de_ix (de_var 0) de_int) da_nil)))))
     dss_nil)
    (dss_one (ds_ret (B := []) (de_tup (da_cons (de_var 0) (da_cons de_int da_nil))))))), F.bindsN fun _ _ _ _ _ _ us hl => match us, hl with | [_], _ => rfl⟩
theorem sc_sign_of : FnScope ["n"] ["n"] (defScope (top 11)) := ⟨rfl, rfl, rfl, by decide +kernel, rfl, by decide +kernel, by decide +kernel⟩
def s_sign_of : SM :=
    (sSeq (sIf [] (cBin ltD (eVar 0) (eC (.int 0)))
     (sRet [] (eUn negD (eC (.int 1))))
     sNil)
    (sRet [] (eIf (cBin gtD (eVar 0) (eC (.int 0))) (eC (.int 1)) (eC (.int 0)))))
def m_sign_of : List D → M D := runB 1 1 s_sign_of
theorem ok_sign_of (C : Facts P w K mg base) : FnD P w K mg base 1 "sign_of" m_sign_of := by
  obtain ⟨f, fd, hg, F⟩ := C.f_sign_of
  exact ⟨f, fd, ["n"], hg, F.kp, fn_mk (N := ["n"]) (s := s_sign_of) F sc_sign_of (fun cdv A outer s0 H E hr =>
    have sc := sc_sign_of
    (dss_cons (ds_if (B := []) (dt_cmp op_ltD (de_var 0) de_int rfl)
     (dss_one (ds_ret (B := []) (de_un un_negD de_int)))
     dss_nil)
    (dss_one (ds_ret (B := []) (de_if (dt_cmp op_gtD (de_var 0) de_int rfl) de_int de_int))))), F.bindsN fun _ _ _ _ _ _ us hl => match us, hl with | [_], _ => rfl⟩
theorem sc_order_of : FnScope ["a", "b"] ["a", "b"] (defScope (top 12)) := ⟨rfl, rfl, rfl, by decide +kernel, rfl, by decide +kernel, by decide +kernel⟩
def s_order_of : SM :=
    (sRet [] (eCall m_sign_of (aCons (eBin subD (eBin mulD (eIx (eVar 0) (eC (.int 0))) (eIx (eVar 1) (eC (.int 1)))) (eBin mulD (eIx (eVar 1) (eC (.int 0))) (eIx (eVar 0) (eC (.int 1))))) aNil)))
def m_order_of : List D → M D := runB 2 2 s_order_of
theorem ok_order_of (C : Facts P w K mg base) : FnD P w K mg base 2 "order_of" m_order_of := by
  obtain ⟨f, fd, hg, F⟩ := C.f_order_of
  exact ⟨f, fd, ["a", "b"], hg, F.kp, fn_mk (N := ["a", "b"]) (s := s_order_of) F sc_order_of (fun cdv A outer s0 H E hr =>
    have sc := sc_order_of
    (dss_one (ds_ret (B := []) (de_call (ok_sign_of C) tk0 (hr.mono (by decide : 1 ≤ 1)) rfl (da_cons (de_bin op_subD (de_bin op_mulD (de_ix (de_var 0) de_int) (de_ix (de_var 1) de_int)) (de_bin op_mulD (de_ix (de_var 1) de_int) (de_ix (de_var 0) de_int))) da_nil))))), F.bindsN fun _ _ _ _ _ _ us hl => match us, hl with | [_, _], _ => rfl⟩
theorem sc_integer_text : FnScope ["n", "left", "pieces", "piece", "digits"] ["n"] (defScope (top 13)) := ⟨rfl, rfl, rfl, by decide +kernel, rfl, by decide +kernel, by decide +kernel⟩
def s_integer_text : SM :=
    (sSeq (sIf [] (cBin ltD (eUn bitsO (eVar 0)) (eC (.int 14000)))
     (sRet [] (eCB strO1 (aCons (eVar 0) aNil)))
     sNil)
    sNever)
def m_integer_text : List D → M D := runB 1 5 s_integer_text
theorem ok_integer_text (C : Facts P w K mg base) : FnD P w K mg base 1 "integer_text" m_integer_text := by
  obtain ⟨f, fd, hg, F⟩ := C.f_integer_text
  exact ⟨f, fd, ["n"], hg, F.kp, fn_mk (N := ["n", "left", "pieces", "piece", "digits"]) (s := s_integer_text) F sc_integer_text (fun cdv A outer s0 H E hr =>
    have sc := sc_integer_text
    (dss_cons (ds_if (B := []) (dt_cmp op_ltD (de_bits (de_var 0)) de_int rfl)
     (dss_one (ds_ret (B := []) (de_ct cr_strO1 rfl C.g_str (da_cons (de_var 0) da_nil))))
     dss_nil)
    dss_never)), F.bindsN fun _ _ _ _ _ _ us hl => match us, hl with | [_], _ => rfl⟩
theorem sc_integer_from : FnScope ["text", "digits", "first", "value", "at"] ["text"] (defScope (top 14)) := ⟨rfl, rfl, rfl, by decide +kernel, rfl, by decide +kernel, by decide +kernel⟩
def s_integer_from : SM :=
    (sSeq (sAsg [] (eIf (cVal (eM startsO (eVar 0) (aCons (eC (.str "-")) aNil))) (eSl (eVar 0) (oSo (eC (.int 1))) oNo) (eVar 0)) (tgN 1))
    (sSeq (sIf [] (cOr (cNot (cVal (eM isasciiO (eVar 1) aNil))) (cNot (cVal (eM isdigitO (eVar 1) aNil))))
     (sRet [] (eC .non))
     sNil)
    (sSeq (sIf [] (cAnd (cBin eqD (eIx (eVar 1) (eC (.int 0))) (eC (.str "0"))) (cBin neD (eVar 0) (eC (.str "0"))))
     (sRet [] (eC .non))
     sNil)
    (sSeq (sAsg [] (eBin modD (eCB lenO (aCons (eVar 1) aNil)) (eC (.int 60))) (tgN 2))
    (sSeq (sAsg [] (eCB intO (aCons (eBin addD (eC (.str "0")) (eSl (eVar 1) oNo (oSo (eVar 2)))) aNil)) (tgN 3))
    (sSeq (sFor [] (iRng3 (aCons (eVar 2) (aCons (eCB lenO (aCons (eVar 1) aNil)) (aCons (eC (.int 60)) aNil)))) (tgN 4)
     (sAsg [] (eBin addD (eBin mulD (eVar 3) (eC (.int 1000000000000000000000000000000000000000000000000000000000000))) (eCB intO (aCons (eSl (eVar 1) (oSo (eVar 4)) (oSo (eBin addD (eVar 4) (eC (.int 60))))) aNil))) (tgN 3)))
    (sRet [] (eIf (cVal (eM startsO (eVar 0) (aCons (eC (.str "-")) aNil))) (eUn negD (eVar 3)) (eVar 3)))))))))
def m_integer_from : List D → M D := runB 1 5 s_integer_from
theorem ok_integer_from (C : Facts P w K mg base) : FnD P w K mg base 1 "integer_from" m_integer_from := by
  obtain ⟨f, fd, hg, F⟩ := C.f_integer_from
  exact ⟨f, fd, ["text"], hg, F.kp, fn_mk (N := ["text", "digits", "first", "value", "at"]) (s := s_integer_from) F sc_integer_from (fun cdv A outer s0 H E hr =>
    have sc := sc_integer_from
    (dss_cons (ds_set (i := 1) (B := []) sc.nd rfl (by first | exact Or.inl rfl | exact Or.inr rfl) (de_if (dt_val (de_m PySem.F.slot_str_startswith PySem.F.type_str_startswith mt_startsO (de_var 0) (da_cons de_str da_nil))) (de_sl (de_var 0) (do_some de_int) do_none) (de_var 0)))
    (dss_cons (ds_if (B := []) (dt_w (dw_or (dt_not (dt_val (de_m0 PySem.F.slot_str_isascii PySem.F.type_str_isascii mt_isasciiO (de_var 1)))) (dw_or1 (dt_not (dt_val (de_m0 PySem.F.slot_str_isdigit PySem.F.type_str_isdigit mt_isdigitO (de_var 1)))))))
     (dss_one (ds_ret (B := []) de_non))
     dss_nil)
    (dss_cons (ds_if (B := []) (dt_w (dw_and (dt_cmp (op_eqDD hr.units) (de_ix (de_var 1) de_int) de_str rfl) (dw_and1 (dt_cmp (op_neDD hr.units) (de_var 0) de_str rfl))))
     (dss_one (ds_ret (B := []) de_non))
     dss_nil)
    (dss_cons (ds_set (i := 2) (B := []) sc.nd rfl (by first | exact Or.inl rfl | exact Or.inr rfl) (de_bin op_modD (de_cb cr_lenO rfl C.g_len (da_cons (de_var 1) da_nil)) de_int))
    (dss_cons (ds_set (i := 3) (B := []) sc.nd rfl (by first | exact Or.inl rfl | exact Or.inr rfl) (de_ct cr_intO rfl C.g_int (da_cons (de_bin op_addD de_str (de_sl (de_var 1) do_none (do_some (de_var 2)))) da_nil)))
    (dss_cons (ds_for (B := []) hp0 rfl (di_r3 rfl C.g_range (da_cons (de_var 2) (da_cons (de_cb cr_lenO rfl C.g_len (da_cons (de_var 1) da_nil)) (da_cons de_int da_nil)))) (dg_name sc.nd (i := 4) rfl (by first | exact Or.inl rfl | exact Or.inr rfl))
     (dss_one (ds_set (i := 3) (B := []) sc.nd rfl (by first | exact Or.inl rfl | exact Or.inr rfl) (de_bin op_addD (de_bin op_mulD (de_var 3) (de_gintE rfl C.g_CHUNK)) (de_ct cr_intO rfl C.g_int (da_cons (de_sl (de_var 1) (do_some (de_var 4)) (do_some (de_bin op_addD (de_var 4) de_int))) da_nil))))))
    (dss_one (ds_ret (B := []) (de_if (dt_val (de_m PySem.F.slot_str_startswith PySem.F.type_str_startswith mt_startsO (de_var 0) (da_cons de_str da_nil))) (de_un un_negD (de_var 3)) (de_var 3))))))))))), F.bindsN fun _ _ _ _ _ _ us hl => match us, hl with | [_], _ => rfl⟩
theorem sc_pair_text : FnScope ["pair"] ["pair"] (defScope (top 15)) := ⟨rfl, rfl, rfl, by decide +kernel, rfl, by decide +kernel, by decide +kernel⟩
def s_pair_text : SM :=
    (sSeq (sIf [] (cBin eqD (eIx (eVar 0) (eC (.int 1))) (eC (.int 1)))
     (sRet [] (eCall m_integer_text (aCons (eIx (eVar 0) (eC (.int 0))) aNil)))
     sNil)
    (sRet [] (eBin addD (eBin addD (eCall m_integer_text (aCons (eIx (eVar 0) (eC (.int 0))) aNil)) (eC (.str "/"))) (eCall m_integer_text (aCons (eIx (eVar 0) (eC (.int 1))) aNil)))))
def m_pair_text : List D → M D := runB 1 1 s_pair_text
theorem ok_pair_text (C : Facts P w K mg base) : FnD P w K mg base 2 "pair_text" m_pair_text := by
  obtain ⟨f, fd, hg, F⟩ := C.f_pair_text
  exact ⟨f, fd, ["pair"], hg, F.kp, fn_mk (N := ["pair"]) (s := s_pair_text) F sc_pair_text (fun cdv A outer s0 H E hr =>
    have sc := sc_pair_text
    (dss_cons (ds_if (B := []) (dt_cmp (op_eqDD hr.units) (de_ix (de_var 0) de_int) de_int rfl)
     (dss_one (ds_ret (B := []) (de_call (ok_integer_text C) tk0 (hr.mono (by decide : 1 ≤ 1)) rfl (da_cons (de_ix (de_var 0) de_int) da_nil))))
     dss_nil)
    (dss_one (ds_ret (B := []) (de_bin op_addD (de_bin op_addD (de_call (ok_integer_text C) tk0 (hr.mono (by decide : 1 ≤ 1)) rfl (da_cons (de_ix (de_var 0) de_int) da_nil)) de_str) (de_call (ok_integer_text C) tk0 (hr.mono (by decide : 1 ≤ 1)) rfl (da_cons (de_ix (de_var 0) de_int) da_nil))))))), F.bindsN fun _ _ _ _ _ _ us hl => match us, hl with | [_], _ => rfl⟩
theorem sc_pair_from : FnScope ["text", "left", "stroke", "right", "top", "bottom"] ["text"] (defScope (top 16)) := ⟨rfl, rfl, rfl, by decide +kernel, rfl, by decide +kernel, by decide +kernel⟩
def s_pair_from : SM :=
    (sSeq (sAsg [] (eM partO (eVar 0) (aCons (eC (.str "/")) aNil)) (tgT 3 (tgsCons (tgN 1) (tgsCons (tgN 2) (tgsCons (tgN 3) tgsNil)))))
    (sSeq (sAsg [] (eCall m_integer_from (aCons (eVar 1) aNil)) (tgN 4))
    (sSeq (sIf [] (cBin isND (eVar 4) (eC .non))
     (sRet [] (eC .non))
     sNil)
    (sSeq (sIf [] (cBin eqD (eVar 2) (eC (.str "")))
     (sRet [] (eTup (aCons (eVar 4) (aCons (eC (.int 1)) aNil))))
     sNil)
    (sSeq (sAsg [] (eCall m_integer_from (aCons (eVar 3) aNil)) (tgN 5))
    (sSeq (sIf [] (cOr (cBin isND (eVar 5) (eC .non)) (cOr (cBin ltD (eVar 5) (eC (.int 2))) (cBin neD (eCB gcdO (aCons (eVar 4) (aCons (eVar 5) aNil))) (eC (.int 1)))))
     (sRet [] (eC .non))
     sNil)
    (sRet [] (eTup (aCons (eVar 4) (aCons (eVar 5) aNil))))))))))
def m_pair_from : List D → M D := runB 1 6 s_pair_from
theorem ok_pair_from (C : Facts P w K mg base) : FnD P w K mg base 2 "pair_from" m_pair_from := by
  obtain ⟨f, fd, hg, F⟩ := C.f_pair_from
  exact ⟨f, fd, ["text"], hg, F.kp, fn_mk (N := ["text", "left", "stroke", "right", "top", "bottom"]) (s := s_pair_from) F sc_pair_from (fun cdv A outer s0 H E hr =>
    have sc := sc_pair_from
    (dss_cons (ds_asg (B := []) (de_m PySem.F.slot_str_partition PySem.F.type_str_partition mt_partO (de_var 0) (da_cons de_str da_nil)) (dg_tup rfl (dgs_cons (dg_name sc.nd (i := 1) rfl (by first | exact Or.inl rfl | exact Or.inr rfl)) (dgs_cons (dg_name sc.nd (i := 2) rfl (by first | exact Or.inl rfl | exact Or.inr rfl)) (dgs_cons (dg_name sc.nd (i := 3) rfl (by first | exact Or.inl rfl | exact Or.inr rfl)) dgs_nil)))))
    (dss_cons (ds_set (i := 4) (B := []) sc.nd rfl (by first | exact Or.inl rfl | exact Or.inr rfl) (de_call (ok_integer_from C) tk0 (hr.mono (by decide : 1 ≤ 1)) rfl (da_cons (de_var 1) da_nil)))
    (dss_cons (ds_if (B := []) (dt_cmp op_isD (de_var 4) de_non rfl)
     (dss_one (ds_ret (B := []) de_non))
     dss_nil)
    (dss_cons (ds_if (B := []) (dt_cmp (op_eqDD hr.units) (de_var 2) de_str rfl)
     (dss_one (ds_ret (B := []) (de_tup (da_cons (de_var 4) (da_cons de_int da_nil)))))
     dss_nil)
    (dss_cons (ds_set (i := 5) (B := []) sc.nd rfl (by first | exact Or.inl rfl | exact Or.inr rfl) (de_call (ok_integer_from C) tk0 (hr.mono (by decide : 1 ≤ 1)) rfl (da_cons (de_var 3) da_nil)))
    (dss_cons (ds_if (B := []) (dt_w (dw_or (dt_cmp op_isD (de_var 5) de_non rfl) (dw_or (dt_cmp op_ltD (de_var 5) de_int rfl) (dw_or1 (dt_cmp (op_neDD hr.units) (de_cf cr_gcdO rfl C.g_gcd (da_cons (de_var 4) (da_cons (de_var 5) da_nil))) de_int rfl)))))
     (dss_one (ds_ret (B := []) de_non))
     dss_nil)
    (dss_one (ds_ret (B := []) (de_tup (da_cons (de_var 4) (da_cons (de_var 5) da_nil)))))))))))), F.bindsN fun _ _ _ _ _ _ us hl => match us, hl with | [_], _ => rfl⟩
theorem sc_taken : FnScope ["value"] ["value"] (defScope (top 18)) := ⟨rfl, rfl, rfl, by decide +kernel, rfl, by decide +kernel, by decide +kernel⟩
def s_taken : SM :=
    (sSeq (sIf [] (cNot (cVal (eCall m_is_fraction (aCons (eVar 0) aNil))))
     (sRaise "BadNumber" ["text", "why"] [] (aCons (eVar 0) (aCons (eC (.str "this is no number")) aNil)))
     sNil)
    (sRet [] (eCall m_pair_of (aCons (eVar 0) aNil))))
def m_taken : List D → M D := runB 1 1 s_taken
theorem ok_taken (C : Facts P w K mg base) : FnD P w K mg base 3 "taken" m_taken := by
  obtain ⟨f, fd, hg, F⟩ := C.f_taken
  exact ⟨f, fd, ["value"], hg, F.kp, fn_mk (N := ["value"]) (s := s_taken) F sc_taken (fun cdv A outer s0 H E hr =>
    have sc := sc_taken
    (dss_cons (ds_if (B := []) (dt_not (dt_val (de_call (ok_is_fraction C) tk0 (hr.mono (by decide : 2 ≤ 2)) rfl (da_cons (de_var 0) da_nil))))
     (dss_one (ds_raise (names := ["text", "why"]) (B := []) C.x_BadNumber rfl tk0 (hr.mono (by decide : 2 ≤ 2)) rfl (da_cons (de_var 0) (da_cons de_str da_nil))))
     dss_nil)
    (dss_one (ds_ret (B := []) (de_call (ok_pair_of C) tk0 (hr.mono (by decide : 2 ≤ 2)) rfl (da_cons (de_var 0) da_nil)))))), F.bindsN fun _ _ _ _ _ _ us hl => match us, hl with | [_], _ => rfl⟩
theorem sc__end_text : FnScope ["end"] ["end"] (defScope (top 20)) := ⟨rfl, rfl, rfl, by decide +kernel, rfl, by decide +kernel, by decide +kernel⟩
def s__end_text : SM :=
    (sRet [] (eIf (cBin isND (eVar 0) (eC .non)) (eC (.str "-")) (eCall m_pair_text (aCons (eCall m_pair_of (aCons (eVar 0) aNil)) aNil))))
def m__end_text : List D → M D := runB 1 1 s__end_text
theorem ok__end_text (C : Facts P w K mg base) : FnD P w K mg base 3 "_end_text" m__end_text := by
  obtain ⟨f, fd, hg, F⟩ := C.f__end_text
  exact ⟨f, fd, ["end"], hg, F.kp, fn_mk (N := ["end"]) (s := s__end_text) F sc__end_text (fun cdv A outer s0 H E hr =>
    have sc := sc__end_text
    (dss_one (ds_ret (B := []) (de_if (dt_cmp op_isD (de_var 0) de_non rfl) de_str (de_call (ok_pair_text C) tk0 (hr.mono (by decide : 2 ≤ 2)) rfl (da_cons (de_call (ok_pair_of C) tk0 (hr.mono (by decide : 2 ≤ 2)) rfl (da_cons (de_var 0) da_nil)) da_nil)))))), F.bindsN fun _ _ _ _ _ _ us hl => match us, hl with | [_], _ => rfl⟩
theorem sc__ends_from : FnScope ["text", "words", "low", "high"] ["text"] (defScope (top 21)) := ⟨rfl, rfl, rfl, by decide +kernel, rfl, by decide +kernel, by decide +kernel⟩
def s__ends_from : SM :=
    (sSeq (sAsg [] (eM splitO (eVar 0) (aCons (eC (.str " ")) aNil)) (tgN 1))
    (sSeq (sIf [] (cOr (cBin neD (eCB lenO (aCons (eVar 1) aNil)) (eC (.int 4))) (cOr (cBin neD (eIx (eVar 1) (eC (.int 0))) (eC (.str "("))) (cBin neD (eIx (eVar 1) (eC (.int 3))) (eC (.str ")")))))
     (sRet [] (eC .non))
     sNil)
    (sSeq (sAsg [] (eIf (cBin eqD (eIx (eVar 1) (eC (.int 1))) (eC (.str "-"))) (eC .non) (eCall m_pair_from (aCons (eIx (eVar 1) (eC (.int 1))) aNil))) (tgN 2))
    (sSeq (sAsg [] (eIf (cBin eqD (eIx (eVar 1) (eC (.int 2))) (eC (.str "-"))) (eC .non) (eCall m_pair_from (aCons (eIx (eVar 1) (eC (.int 2))) aNil))) (tgN 3))
    (sSeq (sIf [] (cOr (cAnd (cBin isND (eVar 2) (eC .non)) (cBin neD (eIx (eVar 1) (eC (.int 1))) (eC (.str "-")))) (cAnd (cBin isND (eVar 3) (eC .non)) (cBin neD (eIx (eVar 1) (eC (.int 2))) (eC (.str "-")))))
     (sRet [] (eC .non))
     sNil)
    (sSeq (sIf [] (cAnd (cBin isNotD (eVar 2) (eC .non)) (cAnd (cBin isNotD (eVar 3) (eC .non)) (cBin geD (eCall m_order_of (aCons (eVar 2) (aCons (eVar 3) aNil))) (eC (.int 0)))))
     (sRet [] (eC .non))
     sNil)
    (sRet [] (eTup (aCons (eVar 2) (aCons (eVar 3) aNil))))))))))
def m__ends_from : List D → M D := runB 1 4 s__ends_from
theorem ok__ends_from (C : Facts P w K mg base) : FnD P w K mg base 3 "_ends_from" m__ends_from := by
  obtain ⟨f, fd, hg, F⟩ := C.f__ends_from
  exact ⟨f, fd, ["text"], hg, F.kp, fn_mk (N := ["text", "words", "low", "high"]) (s := s__ends_from) F sc__ends_from (fun cdv A outer s0 H E hr =>
    have sc := sc__ends_from
    (dss_cons (ds_set (i := 1) (B := []) sc.nd rfl (by first | exact Or.inl rfl | exact Or.inr rfl) (de_m PySem.F.slot_str_split PySem.F.type_str_split mt_splitO (de_var 0) (da_cons de_str da_nil)))
    (dss_cons (ds_if (B := []) (dt_w (dw_or (dt_cmp (op_neDD hr.units) (de_cb cr_lenO rfl C.g_len (da_cons (de_var 1) da_nil)) de_int rfl) (dw_or (dt_cmp (op_neDD hr.units) (de_ix (de_var 1) de_int) de_str rfl) (dw_or1 (dt_cmp (op_neDD hr.units) (de_ix (de_var 1) de_int) de_str rfl)))))
     (dss_one (ds_ret (B := []) de_non))
     dss_nil)
    (dss_cons (ds_set (i := 2) (B := []) sc.nd rfl (by first | exact Or.inl rfl | exact Or.inr rfl) (de_if (dt_cmp (op_eqDD hr.units) (de_ix (de_var 1) de_int) de_str rfl) de_non (de_call (ok_pair_from C) tk0 (hr.mono (by decide : 2 ≤ 2)) rfl (da_cons (de_ix (de_var 1) de_int) da_nil))))
    (dss_cons (ds_set (i := 3) (B := []) sc.nd rfl (by first | exact Or.inl rfl | exact Or.inr rfl) (de_if (dt_cmp (op_eqDD hr.units) (de_ix (de_var 1) de_int) de_str rfl) de_non (de_call (ok_pair_from C) tk0 (hr.mono (by decide : 2 ≤ 2)) rfl (da_cons (de_ix (de_var 1) de_int) da_nil))))
    (dss_cons (ds_if (B := []) (dt_w (dw_or (dt_w (dw_and (dt_cmp op_isD (de_var 2) de_non rfl) (dw_and1 (dt_cmp (op_neDD hr.units) (de_ix (de_var 1) de_int) de_str rfl)))) (dw_or1 (dt_w (dw_and (dt_cmp op_isD (de_var 3) de_non rfl) (dw_and1 (dt_cmp (op_neDD hr.units) (de_ix (de_var 1) de_int) de_str rfl)))))))
     (dss_one (ds_ret (B := []) de_non))
     dss_nil)
    (dss_cons (ds_if (B := []) (dt_w (dw_and (dt_cmp op_isNotD (de_var 2) de_non rfl) (dw_and (dt_cmp op_isNotD (de_var 3) de_non rfl) (dw_and1 (dt_cmp op_geD (de_call (ok_order_of C) tk0 (hr.mono (by decide : 2 ≤ 2)) rfl (da_cons (de_var 2) (da_cons (de_var 3) da_nil))) de_int rfl)))))
     (dss_one (ds_ret (B := []) de_non))
     dss_nil)
    (dss_one (ds_ret (B := []) (de_tup (da_cons (de_var 2) (da_cons (de_var 3) da_nil)))))))))))), F.bindsN fun _ _ _ _ _ _ us hl => match us, hl with | [_], _ => rfl⟩
theorem sc_Stretch_init : FnScope ["self", "text", "ends"] ["self", "text"] (defScope (inClass (top 19) 0)) := ⟨rfl, rfl, rfl, by decide +kernel, rfl, by decide +kernel, by decide +kernel⟩
def s_Stretch_init : SM :=
    (sSeq (sAsg [] (eIf (cVal (eIs Tb (.ty "str") (eVar 1))) (eCall m__ends_from (aCons (eVar 1) aNil)) (eC .non)) (tgN 2))
    (sSeq (sIf [] (cBin isND (eVar 2) (eC .non))
     (sRaise "BadStretch" ["text", "why"] [] (aCons (eVar 1) (aCons (eC (.str "this is no text of a stretch")) aNil)))
     sNil)
    (sSeq (sPut Tb 0 "low" [] (eIx (eVar 2) (eC (.int 0))))
    (sSeq (sPut Tb 0 "high" [] (eIx (eVar 2) (eC (.int 1))))
    (sPut Tb 0 "text" [] (eVar 1))))))
def m_Stretch_init : List D → M D := runI "Stretch" 1 3 s_Stretch_init
theorem mk_Stretch (C : Facts P w K mg base) : MkD P w K mg base 4 "Stretch" m_Stretch_init := by
  obtain ⟨Ca, f, fd, hg, hM, F⟩ := C.i_Stretch
  exact ⟨Ca, f, fd, ["self", "text"], hg, hM, init_mk (c := "Stretch") (n := 1) (N := ["self", "text", "ends"]) (s := s_Stretch_init) F sc_Stretch_init rfl (by decide) (fun cdv A outer s0 H E z hr =>
    have sc := sc_Stretch_init
    (dss_cons (ds_set (i := 2) (B := []) sc.nd rfl (by first | exact Or.inl rfl | exact Or.inr rfl) (de_if (dt_val (de_is C.cls rfl C.g_isinstance (de_var 1) (pkd_ty rfl C.g_str))) (de_call (ok__ends_from C) tk0 (hr.mono (by decide : 3 ≤ 3)) rfl (da_cons (de_var 1) da_nil)) de_non))
    (dss_cons (ds_if (B := []) (dt_cmp op_isD (de_var 2) de_non rfl)
     (dss_one (ds_raise (names := ["text", "why"]) (B := []) C.x_BadStretch rfl tk0 (hr.mono (by decide : 2 ≤ 3)) rfl (da_cons (de_var 1) (da_cons de_str da_nil))))
     dss_nil)
    (dss_cons (ds_put C.cls (i := 0) (B := []) rfl (de_ix (de_var 2) de_int))
    (dss_cons (ds_put C.cls (i := 0) (B := []) rfl (de_ix (de_var 2) de_int))
    (dss_one (ds_put C.cls (i := 0) (B := []) rfl (de_var 1)))))))), F.bindsN fun _ _ _ _ _ _ us hl => match us, hl with | [_, _], _ => rfl⟩
theorem sc_Stretch___contains__ : FnScope ["self", "x", "place"] ["self", "x"] (defScope (inClass (top 19) 1)) := ⟨rfl, rfl, rfl, by decide +kernel, rfl, by decide +kernel, by decide +kernel⟩
def s_Stretch___contains__ : SM :=
    (sSeq (sAsg [] (eCall m_taken (aCons (eVar 1) aNil)) (tgN 2))
    (sSeq (sIf [] (cAnd (cBin isNotD (eFld Tb "low" (eVar 0)) (eC .non)) (cBin leD (eCall m_order_of (aCons (eVar 2) (aCons (eFld Tb "low" (eVar 0)) aNil))) (eC (.int 0))))
     (sRet [] (eC (.bl false)))
     sNil)
    (sRet [] (eOr (eBin (fun x y => (isND x y).map D.bl) (eFld Tb "high" (eVar 0)) (eC .non)) (eBin (fun x y => (ltD x y).map D.bl) (eCall m_order_of (aCons (eVar 2) (aCons (eFld Tb "high" (eVar 0)) aNil))) (eC (.int 0)))))))
def m_Stretch___contains__ : List D → M D := runB 2 3 s_Stretch___contains__
theorem ok_Stretch___contains__ (C : Facts P w K mg base) : MtD P w K mg base 4 "Stretch" "__contains__" m_Stretch___contains__ := by
  obtain ⟨Ca, f, fd, hg, hcl, hM, F⟩ := C.f_Stretch___contains__
  exact ⟨Ca, f, fd, ["self", "x"], hg, hcl, hM, fn_mk (N := ["self", "x", "place"]) (s := s_Stretch___contains__) F sc_Stretch___contains__ (fun cdv A outer s0 H E hr =>
    have sc := sc_Stretch___contains__
    (dss_cons (ds_set (i := 2) (B := []) sc.nd rfl (by first | exact Or.inl rfl | exact Or.inr rfl) (de_call (ok_taken C) tk0 (hr.mono (by decide : 3 ≤ 3)) rfl (da_cons (de_var 1) da_nil)))
    (dss_cons (ds_if (B := []) (dt_w (dw_and (dt_cmp op_isNotD (de_fld C.cls (de_var 0)) de_non rfl) (dw_and1 (dt_cmp op_leD (de_call (ok_order_of C) tk0 (hr.mono (by decide : 2 ≤ 3)) rfl (da_cons (de_var 2) (da_cons (de_fld C.cls (de_var 0)) da_nil))) de_int rfl))))
     (dss_one (ds_ret (B := []) de_bl))
     dss_nil)
    (dss_one (ds_ret (B := []) (de_or (de_cmp op_isD (de_fld C.cls (de_var 0)) de_non rfl) (de_one (de_cmp op_ltD (de_call (ok_order_of C) tk0 (hr.mono (by decide : 2 ≤ 3)) rfl (da_cons (de_var 2) (da_cons (de_fld C.cls (de_var 0)) da_nil))) de_int rfl)))))))), F.bindsN fun _ _ _ _ _ _ us hl => match us, hl with | [_, _], _ => rfl⟩
theorem sc_Stretch___eq__ : FnScope ["self", "other"] ["self", "other"] (defScope (inClass (top 19) 2)) := ⟨rfl, rfl, rfl, by decide +kernel, rfl, by decide +kernel, by decide +kernel⟩
def s_Stretch___eq__ : SM :=
    (sRet [] (eAnd (eIs Tb (.own "Stretch") (eVar 1)) (eAnd (eBin (fun x y => (eqD x y).map D.bl) (eFld Tb "low" (eVar 0)) (eFld Tb "low" (eVar 1))) (eBin (fun x y => (eqD x y).map D.bl) (eFld Tb "high" (eVar 0)) (eFld Tb "high" (eVar 1))))))
def m_Stretch___eq__ : List D → M D := runB 2 2 s_Stretch___eq__
theorem ok_Stretch___eq__ (C : Facts P w K mg base) : MtD P w K mg base 1 "Stretch" "__eq__" m_Stretch___eq__ := by
  obtain ⟨Ca, f, fd, hg, hcl, hM, F⟩ := C.f_Stretch___eq__
  exact ⟨Ca, f, fd, ["self", "other"], hg, hcl, hM, fn_mk (N := ["self", "other"]) (s := s_Stretch___eq__) F sc_Stretch___eq__ (fun cdv A outer s0 H E hr =>
    have sc := sc_Stretch___eq__
    (dss_one (ds_ret (B := []) (de_and (de_is C.cls rfl C.g_isinstance (de_var 1) (pkd_ownE rfl C.c_Stretch)) (de_and (de_cmp (op_eqDD hr.units) (de_fld C.cls (de_var 0)) (de_fld C.cls (de_var 1)) rfl) (de_one (de_cmp (op_eqDD hr.units) (de_fld C.cls (de_var 0)) (de_fld C.cls (de_var 1)) rfl))))))), F.bindsN fun _ _ _ _ _ _ us hl => match us, hl with | [_, _], _ => rfl⟩
theorem okH_Stretch___eq__ (C : Facts P w K mg base) : MtH P w K mg base 1 "Stretch" "__eq__" m_Stretch___eq__ := by
  obtain ⟨Ca, f, fd, hg, hcl, hM, F⟩ := C.f_Stretch___eq__
  exact ⟨Ca, f, fd, ["self", "other"], hg, hcl, hM, fn_mkH (N := ["self", "other"]) (s := s_Stretch___eq__) F sc_Stretch___eq__ (fun cdv A outer s0 H E p hot hr =>
    have sc := sc_Stretch___eq__
    (dss_one (ds_ret (B := []) (de_and (de_is C.cls rfl C.g_isinstance (de_var 1) (pkd_ownE rfl C.c_Stretch)) (de_and (de_cmp (op_eqDD hr.unitsH) (de_fld C.cls (de_var 0)) (de_fld C.cls (de_var 1)) rfl) (de_one (de_cmp (op_eqDD hr.unitsH) (de_fld C.cls (de_var 0)) (de_fld C.cls (de_var 1)) rfl))))))), F.bindsN fun _ _ _ _ _ _ us hl => match us, hl with | [_, _], _ => rfl⟩
theorem sc_stretch_of : FnScope ["low", "high", "end"] ["low", "high"] (defScope (top 22)) := ⟨rfl, rfl, rfl, by decide +kernel, rfl, by decide +kernel, by decide +kernel⟩
def s_stretch_of : SM :=
    (sSeq (sFor [] (iVal (eTup (aCons (eVar 0) (aCons (eVar 1) aNil)))) (tgN 2)
     (sIf [] (cAnd (cBin isNotD (eVar 2) (eC .non)) (cNot (cVal (eCall m_is_fraction (aCons (eVar 2) aNil)))))
      (sRaise "BadStretch" ["text", "why"] [] (aCons (eTup (aCons (eVar 0) (aCons (eVar 1) aNil))) (aCons (eC (.str "an end is no number")) aNil)))
      sNil))
    (sSeq (sIf [] (cAnd (cBin isNotD (eVar 0) (eC .non)) (cAnd (cBin isNotD (eVar 1) (eC .non)) (cBin geD (eCall m_order_of (aCons (eCall m_pair_of (aCons (eVar 0) aNil)) (aCons (eCall m_pair_of (aCons (eVar 1) aNil)) aNil))) (eC (.int 0)))))
     (sRaise "BadStretch" ["text", "why"] [] (aCons (eTup (aCons (eVar 0) (aCons (eVar 1) aNil))) (aCons (eC (.str "the low end is not below the high one")) aNil)))
     sNil)
    (sRet [] (eCall m_Stretch_init (aCons (eBin addD (eBin addD (eBin addD (eBin addD (eC (.str "( ")) (eCall m__end_text (aCons (eVar 0) aNil))) (eC (.str " "))) (eCall m__end_text (aCons (eVar 1) aNil))) (eC (.str " )"))) aNil)))))
def m_stretch_of : List D → M D := runB 2 3 s_stretch_of
theorem ok_stretch_of (C : Facts P w K mg base) : FnD P w K mg base 6 "stretch_of" m_stretch_of := by
  obtain ⟨f, fd, hg, F⟩ := C.f_stretch_of
  exact ⟨f, fd, ["low", "high"], hg, F.kp, fn_mk (N := ["low", "high", "end"]) (s := s_stretch_of) F sc_stretch_of (fun cdv A outer s0 H E hr =>
    have sc := sc_stretch_of
    (dss_cons (ds_for (B := []) hp0 rfl (di_val (de_tup (da_cons (de_var 0) (da_cons (de_var 1) da_nil)))) (dg_name sc.nd (i := 2) rfl (by first | exact Or.inl rfl | exact Or.inr rfl))
     (dss_one (ds_if (B := []) (dt_w (dw_and (dt_cmp op_isNotD (de_var 2) de_non rfl) (dw_and1 (dt_not (dt_val (de_call (ok_is_fraction C) tk0 (hr.mono (by decide : 2 ≤ 5)) rfl (da_cons (de_var 2) da_nil)))))))
      (dss_one (ds_raise (names := ["text", "why"]) (B := []) C.x_BadStretch rfl tk0 (hr.mono (by decide : 2 ≤ 5)) rfl (da_cons (de_tup (da_cons (de_var 0) (da_cons (de_var 1) da_nil))) (da_cons de_str da_nil))))
      dss_nil)))
    (dss_cons (ds_if (B := []) (dt_w (dw_and (dt_cmp op_isNotD (de_var 0) de_non rfl) (dw_and (dt_cmp op_isNotD (de_var 1) de_non rfl) (dw_and1 (dt_cmp op_geD (de_call (ok_order_of C) tk0 (hr.mono (by decide : 2 ≤ 5)) rfl (da_cons (de_call (ok_pair_of C) tk0 (hr.mono (by decide : 2 ≤ 5)) rfl (da_cons (de_var 0) da_nil)) (da_cons (de_call (ok_pair_of C) tk0 (hr.mono (by decide : 2 ≤ 5)) rfl (da_cons (de_var 1) da_nil)) da_nil))) de_int rfl)))))
     (dss_one (ds_raise (names := ["text", "why"]) (B := []) C.x_BadStretch rfl tk0 (hr.mono (by decide : 2 ≤ 5)) rfl (da_cons (de_tup (da_cons (de_var 0) (da_cons (de_var 1) da_nil))) (da_cons de_str da_nil))))
     dss_nil)
    (dss_one (ds_ret (B := []) (de_make (mk_Stretch C) tk0 (hr.mono (by decide : 5 ≤ 5)) rfl (da_cons (de_bin op_addD (de_bin op_addD (de_bin op_addD (de_bin op_addD de_str (de_call (ok__end_text C) tk0 (hr.mono (by decide : 3 ≤ 5)) rfl (da_cons (de_var 0) da_nil))) de_str) (de_call (ok__end_text C) tk0 (hr.mono (by decide : 3 ≤ 5)) rfl (da_cons (de_var 1) da_nil))) de_str) da_nil))))))), F.bindsN fun _ _ _ _ _ _ us hl => match us, hl with | [_, _], _ => rfl⟩
theorem sc_Stretch_within : FnScope ["self", "other"] ["self", "other"] (defScope (inClass (top 19) 3)) := ⟨rfl, rfl, rfl, by decide +kernel, rfl, by decide +kernel, by decide +kernel⟩
def s_Stretch_within : SM :=
    (sSeq (sIf [] (cAnd (cBin isNotD (eFld Tb "low" (eVar 1)) (eC .non)) (cOr (cBin isND (eFld Tb "low" (eVar 0)) (eC .non)) (cBin ltD (eCall m_order_of (aCons (eFld Tb "low" (eVar 0)) (aCons (eFld Tb "low" (eVar 1)) aNil))) (eC (.int 0)))))
     (sRet [] (eC (.bl false)))
     sNil)
    (sRet [] (eOr (eBin (fun x y => (isND x y).map D.bl) (eFld Tb "high" (eVar 1)) (eC .non)) (eAnd (eBin (fun x y => (isNotD x y).map D.bl) (eFld Tb "high" (eVar 0)) (eC .non)) (eBin (fun x y => (leD x y).map D.bl) (eCall m_order_of (aCons (eFld Tb "high" (eVar 0)) (aCons (eFld Tb "high" (eVar 1)) aNil))) (eC (.int 0)))))))
def m_Stretch_within : List D → M D := runB 2 2 s_Stretch_within
theorem ok_Stretch_within (C : Facts P w K mg base) : MtD P w K mg base 3 "Stretch" "within" m_Stretch_within := by
  obtain ⟨Ca, f, fd, hg, hcl, hM, F⟩ := C.f_Stretch_within
  exact ⟨Ca, f, fd, ["self", "other"], hg, hcl, hM, fn_mk (N := ["self", "other"]) (s := s_Stretch_within) F sc_Stretch_within (fun cdv A outer s0 H E hr =>
    have sc := sc_Stretch_within
    (dss_cons (ds_if (B := []) (dt_w (dw_and (dt_cmp op_isNotD (de_fld C.cls (de_var 1)) de_non rfl) (dw_and1 (dt_w (dw_or (dt_cmp op_isD (de_fld C.cls (de_var 0)) de_non rfl) (dw_or1 (dt_cmp op_ltD (de_call (ok_order_of C) tk0 (hr.mono (by decide : 2 ≤ 2)) rfl (da_cons (de_fld C.cls (de_var 0)) (da_cons (de_fld C.cls (de_var 1)) da_nil))) de_int rfl)))))))
     (dss_one (ds_ret (B := []) de_bl))
     dss_nil)
    (dss_one (ds_ret (B := []) (de_or (de_cmp op_isD (de_fld C.cls (de_var 1)) de_non rfl) (de_one (de_and (de_cmp op_isNotD (de_fld C.cls (de_var 0)) de_non rfl) (de_one (de_cmp op_leD (de_call (ok_order_of C) tk0 (hr.mono (by decide : 2 ≤ 2)) rfl (da_cons (de_fld C.cls (de_var 0)) (da_cons (de_fld C.cls (de_var 1)) da_nil))) de_int rfl))))))))), F.bindsN fun _ _ _ _ _ _ us hl => match us, hl with | [_, _], _ => rfl⟩
theorem sc_Stretch_hull : FnScope ["self", "other", "low", "high"] ["self", "other"] (defScope (inClass (top 19) 4)) := ⟨rfl, rfl, rfl, by decide +kernel, rfl, by decide +kernel, by decide +kernel⟩
def s_Stretch_hull : SM :=
    (sSeq (sAsg [] (eTup (aCons (eC .non) (aCons (eC .non) aNil))) (tgT 2 (tgsCons (tgN 2) (tgsCons (tgN 3) tgsNil))))
    (sSeq (sIf [] (cAnd (cBin isNotD (eFld Tb "low" (eVar 0)) (eC .non)) (cBin isNotD (eFld Tb "low" (eVar 1)) (eC .non)))
     (sAsg [] (eIf (cBin leD (eCall m_order_of (aCons (eFld Tb "low" (eVar 0)) (aCons (eFld Tb "low" (eVar 1)) aNil))) (eC (.int 0))) (eFld Tb "low" (eVar 0)) (eFld Tb "low" (eVar 1))) (tgN 2))
     sNil)
    (sSeq (sIf [] (cAnd (cBin isNotD (eFld Tb "high" (eVar 0)) (eC .non)) (cBin isNotD (eFld Tb "high" (eVar 1)) (eC .non)))
     (sAsg [] (eIf (cBin geD (eCall m_order_of (aCons (eFld Tb "high" (eVar 0)) (aCons (eFld Tb "high" (eVar 1)) aNil))) (eC (.int 0))) (eFld Tb "high" (eVar 0)) (eFld Tb "high" (eVar 1))) (tgN 3))
     sNil)
    (sRet [] (eCall m_stretch_of (aCons (eVar 2) (aCons (eVar 3) aNil)))))))
def m_Stretch_hull : List D → M D := runB 2 4 s_Stretch_hull
theorem ok_Stretch_hull (C : Facts P w K mg base) : MtD P w K mg base 7 "Stretch" "hull" m_Stretch_hull := by
  obtain ⟨Ca, f, fd, hg, hcl, hM, F⟩ := C.f_Stretch_hull
  exact ⟨Ca, f, fd, ["self", "other"], hg, hcl, hM, fn_mk (N := ["self", "other", "low", "high"]) (s := s_Stretch_hull) F sc_Stretch_hull (fun cdv A outer s0 H E hr =>
    have sc := sc_Stretch_hull
    (dss_cons (ds_asg (B := []) (de_tup (da_cons de_non (da_cons de_non da_nil))) (dg_tup rfl (dgs_cons (dg_name sc.nd (i := 2) rfl (by first | exact Or.inl rfl | exact Or.inr rfl)) (dgs_cons (dg_name sc.nd (i := 3) rfl (by first | exact Or.inl rfl | exact Or.inr rfl)) dgs_nil))))
    (dss_cons (ds_if (B := []) (dt_w (dw_and (dt_cmp op_isNotD (de_fld C.cls (de_var 0)) de_non rfl) (dw_and1 (dt_cmp op_isNotD (de_fld C.cls (de_var 1)) de_non rfl))))
     (dss_one (ds_set (i := 2) (B := []) sc.nd rfl (by first | exact Or.inl rfl | exact Or.inr rfl) (de_if (dt_cmp op_leD (de_call (ok_order_of C) tk0 (hr.mono (by decide : 2 ≤ 6)) rfl (da_cons (de_fld C.cls (de_var 0)) (da_cons (de_fld C.cls (de_var 1)) da_nil))) de_int rfl) (de_fld C.cls (de_var 0)) (de_fld C.cls (de_var 1)))))
     dss_nil)
    (dss_cons (ds_if (B := []) (dt_w (dw_and (dt_cmp op_isNotD (de_fld C.cls (de_var 0)) de_non rfl) (dw_and1 (dt_cmp op_isNotD (de_fld C.cls (de_var 1)) de_non rfl))))
     (dss_one (ds_set (i := 3) (B := []) sc.nd rfl (by first | exact Or.inl rfl | exact Or.inr rfl) (de_if (dt_cmp op_geD (de_call (ok_order_of C) tk0 (hr.mono (by decide : 2 ≤ 6)) rfl (da_cons (de_fld C.cls (de_var 0)) (da_cons (de_fld C.cls (de_var 1)) da_nil))) de_int rfl) (de_fld C.cls (de_var 0)) (de_fld C.cls (de_var 1)))))
     dss_nil)
    (dss_one (ds_ret (B := []) (de_call (ok_stretch_of C) tk0 (hr.mono (by decide : 6 ≤ 6)) rfl (da_cons (de_var 2) (da_cons (de_var 3) da_nil))))))))), F.bindsN fun _ _ _ _ _ _ us hl => match us, hl with | [_, _], _ => rfl⟩
theorem sc_Stretch_shared : FnScope ["self", "other", "low", "high"] ["self", "other"] (defScope (inClass (top 19) 5)) := ⟨rfl, rfl, rfl, by decide +kernel, rfl, by decide +kernel, by decide +kernel⟩
def s_Stretch_shared : SM :=
    (sSeq (sPar [] (aCons (eFld Tb "low" (eVar 0)) (aCons (eFld Tb "high" (eVar 0)) aNil)) (tg2 2 3))
    (sSeq (sIf [] (cOr (cBin isND (eVar 2) (eC .non)) (cAnd (cBin isNotD (eFld Tb "low" (eVar 1)) (eC .non)) (cBin ltD (eCall m_order_of (aCons (eVar 2) (aCons (eFld Tb "low" (eVar 1)) aNil))) (eC (.int 0)))))
     (sAsg [] (eFld Tb "low" (eVar 1)) (tgN 2))
     sNil)
    (sSeq (sIf [] (cOr (cBin isND (eVar 3) (eC .non)) (cAnd (cBin isNotD (eFld Tb "high" (eVar 1)) (eC .non)) (cBin gtD (eCall m_order_of (aCons (eVar 3) (aCons (eFld Tb "high" (eVar 1)) aNil))) (eC (.int 0)))))
     (sAsg [] (eFld Tb "high" (eVar 1)) (tgN 3))
     sNil)
    (sSeq (sIf [] (cAnd (cBin isNotD (eVar 2) (eC .non)) (cAnd (cBin isNotD (eVar 3) (eC .non)) (cBin geD (eCall m_order_of (aCons (eVar 2) (aCons (eVar 3) aNil))) (eC (.int 0)))))
     (sRet [] (eC .non))
     sNil)
    (sRet [] (eCall m_stretch_of (aCons (eVar 2) (aCons (eVar 3) aNil))))))))
def m_Stretch_shared : List D → M D := runB 2 4 s_Stretch_shared
theorem ok_Stretch_shared (C : Facts P w K mg base) : MtD P w K mg base 7 "Stretch" "shared" m_Stretch_shared := by
  obtain ⟨Ca, f, fd, hg, hcl, hM, F⟩ := C.f_Stretch_shared
  exact ⟨Ca, f, fd, ["self", "other"], hg, hcl, hM, fn_mk (N := ["self", "other", "low", "high"]) (s := s_Stretch_shared) F sc_Stretch_shared (fun cdv A outer s0 H E hr =>
    have sc := sc_Stretch_shared
    (dss_cons (ds_par (i := 2) (j := 3) (B := []) rfl sc.nd rfl rfl (by decide) rfl rfl (da_cons (de_fld C.cls (de_var 0)) (da_cons (de_fld C.cls (de_var 0)) da_nil)))
    (dss_cons (ds_if (B := []) (dt_w (dw_or (dt_cmp op_isD (de_var 2) de_non rfl) (dw_or1 (dt_w (dw_and (dt_cmp op_isNotD (de_fld C.cls (de_var 1)) de_non rfl) (dw_and1 (dt_cmp op_ltD (de_call (ok_order_of C) tk0 (hr.mono (by decide : 2 ≤ 6)) rfl (da_cons (de_var 2) (da_cons (de_fld C.cls (de_var 1)) da_nil))) de_int rfl)))))))
     (dss_one (ds_set (i := 2) (B := []) sc.nd rfl (by first | exact Or.inl rfl | exact Or.inr rfl) (de_fld C.cls (de_var 1))))
     dss_nil)
    (dss_cons (ds_if (B := []) (dt_w (dw_or (dt_cmp op_isD (de_var 3) de_non rfl) (dw_or1 (dt_w (dw_and (dt_cmp op_isNotD (de_fld C.cls (de_var 1)) de_non rfl) (dw_and1 (dt_cmp op_gtD (de_call (ok_order_of C) tk0 (hr.mono (by decide : 2 ≤ 6)) rfl (da_cons (de_var 3) (da_cons (de_fld C.cls (de_var 1)) da_nil))) de_int rfl)))))))
     (dss_one (ds_set (i := 3) (B := []) sc.nd rfl (by first | exact Or.inl rfl | exact Or.inr rfl) (de_fld C.cls (de_var 1))))
     dss_nil)
    (dss_cons (ds_if (B := []) (dt_w (dw_and (dt_cmp op_isNotD (de_var 2) de_non rfl) (dw_and (dt_cmp op_isNotD (de_var 3) de_non rfl) (dw_and1 (dt_cmp op_geD (de_call (ok_order_of C) tk0 (hr.mono (by decide : 2 ≤ 6)) rfl (da_cons (de_var 2) (da_cons (de_var 3) da_nil))) de_int rfl)))))
     (dss_one (ds_ret (B := []) de_non))
     dss_nil)
    (dss_one (ds_ret (B := []) (de_call (ok_stretch_of C) tk0 (hr.mono (by decide : 6 ≤ 6)) rfl (da_cons (de_var 2) (da_cons (de_var 3) da_nil)))))))))), F.bindsN fun _ _ _ _ _ _ us hl => match us, hl with | [_, _], _ => rfl⟩
theorem sc__law_box : FnScope ["script", "mixed", "item"] ["script"] (defScope (top 24)) := ⟨rfl, rfl, rfl, by decide +kernel, rfl, by decide +kernel, by decide +kernel⟩
def s__law_box : SM :=
    (sSeq (sAsg [] (eC (.int 17795)) (tgN 1))
    (sSeq (sFor [] (iVal (eSl (eVar 0) oNo (oSo (eC (.int 63))))) (tgN 2)
     (sAsg [] (eBin modD (eCB intO (aCons (eBin addD (eBin addD (eBin mulD (eVar 1) (eC (.int 40692))) (eBin modD (eCB intO (aCons (eVar 2) aNil)) (eC (.int 2147483399)))) (eC (.int 1021))) aNil)) (eC (.int 2147483563))) (tgN 1)))
    (sRet [] (eLst (aCons (eL (lOf (eSl (eVar 0) oNo (oSo (eC (.int 63)))))) (aCons (eC (.int 0)) (aCons (eC (.int 0)) (aCons (eVar 1) (aCons (eC (.int 0)) (aCons (eC (.int 0)) aNil))))))))))
def m__law_box : List D → M D := runB 1 3 s__law_box
theorem ok__law_box (C : Facts P w K mg base) : FnD P w K mg base 1 "_law_box" m__law_box := by
  obtain ⟨f, fd, hg, F⟩ := C.f__law_box
  exact ⟨f, fd, ["script"], hg, F.kp, fn_mk (N := ["script", "mixed", "item"]) (s := s__law_box) F sc__law_box (fun cdv A outer s0 H E hr =>
    have sc := sc__law_box
    (dss_cons (ds_set (i := 1) (B := []) sc.nd rfl (by first | exact Or.inl rfl | exact Or.inr rfl) de_int)
    (dss_cons (ds_for (B := []) hp0 rfl (di_val (de_sl (de_var 0) do_none (do_some de_int))) (dg_name sc.nd (i := 2) rfl (by first | exact Or.inl rfl | exact Or.inr rfl))
     (dss_one (ds_set (i := 1) (B := []) sc.nd rfl (by first | exact Or.inl rfl | exact Or.inr rfl) (de_bin op_modD (de_ct cr_intO rfl C.g_int (da_cons (de_bin op_addD (de_bin op_addD (de_bin op_mulD (de_var 1) de_int) (de_bin op_modD (de_ct cr_intO rfl C.g_int (da_cons (de_var 2) da_nil)) de_int)) de_int) da_nil)) de_int))))
    (dss_one (ds_ret (B := []) (de_lst (da_cons (de_dn (dn_list rfl C.g_list (de_sl (de_var 0) do_none (do_some de_int)))) (da_cons de_int (da_cons de_int (da_cons (de_var 1) (da_cons de_int (da_cons de_int da_nil)))))))))))), F.bindsN fun _ _ _ _ _ _ us hl => match us, hl with | [_], _ => rfl⟩
theorem sc__law_draw : FnScope ["box", "size", "item", "digit"] ["box", "size"] (defScope (top 25)) := ⟨rfl, rfl, rfl, by decide +kernel, rfl, by decide +kernel, by decide +kernel⟩
def s__law_draw : SM :=
    (sSeq (sBox 0 (eBin addD (eIx (eVar 0) (eC (.int 4))) (eC (.int 1))) (eC (.int 4)))
    (sSeq (sIf [] (cAnd (cBin eqD (eIx (eVar 0) (eC (.int 2))) (eC (.int 0))) (cBin ltD (eIx (eVar 0) (eC (.int 1))) (eCB lenO (aCons (eIx (eVar 0) (eC (.int 0))) aNil))))
     (sSeq (sAsg [] (eIx (eIx (eVar 0) (eC (.int 0))) (eIx (eVar 0) (eC (.int 1)))) (tgN 2))
     (sSeq (sBox 0 (eBin addD (eIx (eVar 0) (eC (.int 1))) (eC (.int 1))) (eC (.int 1)))
     (sIf [] (cBin geD (eVar 2) (eBin powD (eC (.int 10)) (eC (.int 18))))
      (sSeq (sBox 0 (eVar 2) (eC (.int 2)))
      (sBox 0 (eC (.int 60)) (eC (.int 5))))
      (sBox 0 (eBin modD (eCB intO (aCons (eBin addD (eBin addD (eBin mulD (eIx (eVar 0) (eC (.int 3))) (eC (.int 40014))) (eBin mulD (eBin modD (eCB intO (aCons (eVar 2) aNil)) (eC (.int 2147483399))) (eC (.int 30011)))) (eC (.int 211))) aNil)) (eC (.int 2147483563))) (eC (.int 3))))))
     sNil)
    (sSeq (sIf [] (cBin gtD (eIx (eVar 0) (eC (.int 2))) (eC (.int 0)))
     (sSeq (sAsg [] (eBin modD (eCB intO (aCons (eIx (eVar 0) (eC (.int 2))) aNil)) (eVar 1)) (tgN 3))
     (sSeq (sBox 0 (eBin subD (eIx (eVar 0) (eC (.int 5))) (eC (.int 1))) (eC (.int 5)))
     (sSeq (sBox 0 (eIf (cBin gtD (eIx (eVar 0) (eC (.int 5))) (eC (.int 0))) (eBin fdivD (eIx (eVar 0) (eC (.int 2))) (eVar 1)) (eC (.int 0))) (eC (.int 2)))
     (sRet [] (eVar 3)))))
     sNil)
    (sSeq (sBox 0 (eBin modD (eCB intO (aCons (eBin addD (eBin addD (eBin powD (eIx (eVar 0) (eC (.int 3))) (eC (.int 3))) (eBin mulD (eIx (eVar 0) (eC (.int 4))) (eC (.int 1299709)))) (eC (.int 70001))) aNil)) (eC (.int 2147483563))) (eC (.int 3)))
    (sRet [] (eBin modD (eCB intO (aCons (eBin addD (eBin fdivD (eIx (eVar 0) (eC (.int 3))) (eC (.int 89))) (eBin mulD (eBin modD (eCB intO (aCons (eIx (eVar 0) (eC (.int 3))) aNil)) (eC (.int 8011))) (eC (.int 73)))) aNil)) (eVar 1)))))))
def m__law_draw : List D → M D := runB 2 4 s__law_draw
theorem ok__law_draw (C : Facts P w K mg base) : FnD P w K mg base 1 "_law_draw" m__law_draw := by
  obtain ⟨f, fd, hg, F⟩ := C.f__law_draw
  exact ⟨f, fd, ["box", "size"], hg, F.kp, fn_mk (N := ["box", "size", "item", "digit"]) (s := s__law_draw) F sc__law_draw (fun cdv A outer s0 H E hr =>
    have sc := sc__law_draw
    (dss_cons (ds_box (i := 0) rfl (de_bin op_addD (de_ix (de_var 0) de_int) de_int) de_int)
    (dss_cons (ds_if (B := []) (dt_w (dw_and (dt_cmp (op_eqDD hr.units) (de_ix (de_var 0) de_int) de_int rfl) (dw_and1 (dt_cmp op_ltD (de_ix (de_var 0) de_int) (de_cb cr_lenO rfl C.g_len (da_cons (de_ix (de_var 0) de_int) da_nil)) rfl))))
     (dss_cons (ds_set (i := 2) (B := []) sc.nd rfl (by first | exact Or.inl rfl | exact Or.inr rfl) (de_ix (de_ix (de_var 0) de_int) (de_ix (de_var 0) de_int)))
     (dss_cons (ds_box (i := 0) rfl (de_bin op_addD (de_ix (de_var 0) de_int) de_int) de_int)
     (dss_one (ds_if (B := []) (dt_cmp op_geD (de_var 2) (de_bin op_powD de_int de_int) rfl)
      (dss_cons (ds_box (i := 0) rfl (de_var 2) de_int)
      (dss_one (ds_box (i := 0) rfl de_int de_int)))
      (dss_one (ds_box (i := 0) rfl (de_bin op_modD (de_ct cr_intO rfl C.g_int (da_cons (de_bin op_addD (de_bin op_addD (de_bin op_mulD (de_ix (de_var 0) de_int) de_int) (de_bin op_mulD (de_bin op_modD (de_ct cr_intO rfl C.g_int (da_cons (de_var 2) da_nil)) de_int) de_int)) de_int) da_nil)) de_int) de_int))))))
     dss_nil)
    (dss_cons (ds_if (B := []) (dt_cmp op_gtD (de_ix (de_var 0) de_int) de_int rfl)
     (dss_cons (ds_set (i := 3) (B := []) sc.nd rfl (by first | exact Or.inl rfl | exact Or.inr rfl) (de_bin op_modD (de_ct cr_intO rfl C.g_int (da_cons (de_ix (de_var 0) de_int) da_nil)) (de_var 1)))
     (dss_cons (ds_box (i := 0) rfl (de_bin op_subD (de_ix (de_var 0) de_int) de_int) de_int)
     (dss_cons (ds_box (i := 0) rfl (de_if (dt_cmp op_gtD (de_ix (de_var 0) de_int) de_int rfl) (de_bin op_fdivD (de_ix (de_var 0) de_int) (de_var 1)) de_int) de_int)
     (dss_one (ds_ret (B := []) (de_var 3))))))
     dss_nil)
    (dss_cons (ds_box (i := 0) rfl (de_bin op_modD (de_ct cr_intO rfl C.g_int (da_cons (de_bin op_addD (de_bin op_addD (de_bin op_powD (de_ix (de_var 0) de_int) de_int) (de_bin op_mulD (de_ix (de_var 0) de_int) de_int)) de_int) da_nil)) de_int) de_int)
    (dss_one (ds_ret (B := []) (de_bin op_modD (de_ct cr_intO rfl C.g_int (da_cons (de_bin op_addD (de_bin op_fdivD (de_ix (de_var 0) de_int) de_int) (de_bin op_mulD (de_bin op_modD (de_ct cr_intO rfl C.g_int (da_cons (de_ix (de_var 0) de_int) da_nil)) de_int) de_int)) da_nil)) (de_var 1))))))))), F.bindsN fun _ _ _ _ _ _ us hl => match us, hl with | [_, _], _ => rfl⟩
theorem sc__law_from : FnScope ["box", "least", "most"] ["box", "least", "most"] (defScope (top 26)) := ⟨rfl, rfl, rfl, by decide +kernel, rfl, by decide +kernel, by decide +kernel⟩
def s__law_from : SM :=
    (sRet [] (eBin addD (eVar 1) (eCall m__law_draw (aCons (eVar 0) (aCons (eBin addD (eBin subD (eVar 2) (eVar 1)) (eC (.int 1))) aNil)))))
def m__law_from : List D → M D := runB 3 3 s__law_from
theorem ok__law_from (C : Facts P w K mg base) : FnD P w K mg base 2 "_law_from" m__law_from := by
  obtain ⟨f, fd, hg, F⟩ := C.f__law_from
  exact ⟨f, fd, ["box", "least", "most"], hg, F.kp, fn_mk (N := ["box", "least", "most"]) (s := s__law_from) F sc__law_from (fun cdv A outer s0 H E hr =>
    have sc := sc__law_from
    (dss_one (ds_ret (B := []) (de_bin op_addD (de_var 1) (de_call (ok__law_draw C) tk0 (hr.mono (by decide : 1 ≤ 1)) rfl (da_cons (de_var 0) (da_cons (de_bin op_addD (de_bin op_subD (de_var 2) (de_var 1)) de_int) da_nil))))))), F.bindsN fun _ _ _ _ _ _ us hl => match us, hl with | [_, _, _], _ => rfl⟩
theorem sc__law_of : FnScope ["box", "menu"] ["box", "menu"] (defScope (top 27)) := ⟨rfl, rfl, rfl, by decide +kernel, rfl, by decide +kernel, by decide +kernel⟩
def s__law_of : SM :=
    (sRet [] (eIx (eVar 1) (eCall m__law_draw (aCons (eVar 0) (aCons (eCB lenO (aCons (eVar 1) aNil)) aNil)))))
def m__law_of : List D → M D := runB 2 2 s__law_of
theorem ok__law_of (C : Facts P w K mg base) : FnD P w K mg base 2 "_law_of" m__law_of := by
  obtain ⟨f, fd, hg, F⟩ := C.f__law_of
  exact ⟨f, fd, ["box", "menu"], hg, F.kp, fn_mk (N := ["box", "menu"]) (s := s__law_of) F sc__law_of (fun cdv A outer s0 H E hr =>
    have sc := sc__law_of
    (dss_one (ds_ret (B := []) (de_ix (de_var 1) (de_call (ok__law_draw C) tk0 (hr.mono (by decide : 1 ≤ 1)) rfl (da_cons (de_var 0) (da_cons (de_cb cr_lenO rfl C.g_len (da_cons (de_var 1) da_nil)) da_nil))))))), F.bindsN fun _ _ _ _ _ _ us hl => match us, hl with | [_, _], _ => rfl⟩
theorem sc__law_gcd : FnScope ["a", "b"] ["a", "b"] (defScope (top 28)) := ⟨rfl, rfl, rfl, by decide +kernel, rfl, by decide +kernel, by decide +kernel⟩
def s__law_gcd : SM :=
    (sSeq (sPar [] (aCons (eCB absO (aCons (eVar 0) aNil)) (aCons (eCB absO (aCons (eVar 1) aNil)) aNil)) (tg2 0 1))
    (sSeq (sWhile [] (cBin gtD (eVar 1) (eC (.int 0)))
     (sPar [] (aCons (eVar 1) (aCons (eBin modD (eCB intO (aCons (eVar 0) aNil)) (eVar 1)) aNil)) (tg2 0 1)))
    (sRet [] (eVar 0))))
def m__law_gcd : List D → M D := runB 2 2 s__law_gcd
theorem ok__law_gcd (C : Facts P w K mg base) : FnD P w K mg base 1 "_law_gcd" m__law_gcd := by
  obtain ⟨f, fd, hg, F⟩ := C.f__law_gcd
  exact ⟨f, fd, ["a", "b"], hg, F.kp, fn_mk (N := ["a", "b"]) (s := s__law_gcd) F sc__law_gcd (fun cdv A outer s0 H E hr =>
    have sc := sc__law_gcd
    (dss_cons (ds_par (i := 0) (j := 1) (B := []) rfl sc.nd rfl rfl (by decide) rfl rfl (da_cons (de_cb cr_absO rfl C.g_abs (da_cons (de_var 0) da_nil)) (da_cons (de_cb cr_absO rfl C.g_abs (da_cons (de_var 1) da_nil)) da_nil)))
    (dss_cons (ds_while (B := []) hp0 (dt_cmp op_gtD (de_var 1) de_int rfl)
     (dss_one (ds_par (i := 0) (j := 1) (B := []) rfl sc.nd rfl rfl (by decide) rfl rfl (da_cons (de_var 1) (da_cons (de_bin op_modD (de_ct cr_intO rfl C.g_int (da_cons (de_var 0) da_nil)) (de_var 1)) da_nil)))))
    (dss_one (ds_ret (B := []) (de_var 0)))))), F.bindsN fun _ _ _ _ _ _ us hl => match us, hl with | [_, _], _ => rfl⟩
theorem sc__law_low : FnScope ["top", "bottom", "part"] ["top", "bottom"] (defScope (top 29)) := ⟨rfl, rfl, rfl, by decide +kernel, rfl, by decide +kernel, by decide +kernel⟩
def s__law_low : SM :=
    (sSeq (sAsg [] (eCall m__law_gcd (aCons (eVar 0) (aCons (eVar 1) aNil))) (tgN 2))
    (sSeq (sIf [] (cBin ltD (eVar 1) (eC (.int 0)))
     (sAsg [] (eUn negD (eVar 2)) (tgN 2))
     sNil)
    (sRet [] (eTup (aCons (eBin fdivD (eVar 0) (eVar 2)) (aCons (eBin fdivD (eVar 1) (eVar 2)) aNil))))))
def m__law_low : List D → M D := runB 2 3 s__law_low
theorem ok__law_low (C : Facts P w K mg base) : FnD P w K mg base 2 "_law_low" m__law_low := by
  obtain ⟨f, fd, hg, F⟩ := C.f__law_low
  exact ⟨f, fd, ["top", "bottom"], hg, F.kp, fn_mk (N := ["top", "bottom", "part"]) (s := s__law_low) F sc__law_low (fun cdv A outer s0 H E hr =>
    have sc := sc__law_low
    (dss_cons (ds_set (i := 2) (B := []) sc.nd rfl (by first | exact Or.inl rfl | exact Or.inr rfl) (de_call (ok__law_gcd C) tk0 (hr.mono (by decide : 1 ≤ 1)) rfl (da_cons (de_var 0) (da_cons (de_var 1) da_nil))))
    (dss_cons (ds_if (B := []) (dt_cmp op_ltD (de_var 1) de_int rfl)
     (dss_one (ds_set (i := 2) (B := []) sc.nd rfl (by first | exact Or.inl rfl | exact Or.inr rfl) (de_un un_negD (de_var 2))))
     dss_nil)
    (dss_one (ds_ret (B := []) (de_tup (da_cons (de_bin op_fdivD (de_var 0) (de_var 2)) (da_cons (de_bin op_fdivD (de_var 1) (de_var 2)) da_nil)))))))), F.bindsN fun _ _ _ _ _ _ us hl => match us, hl with | [_, _], _ => rfl⟩
theorem sc__law_plus : FnScope ["a", "b"] ["a", "b"] (defScope (top 30)) := ⟨rfl, rfl, rfl, by decide +kernel, rfl, by decide +kernel, by decide +kernel⟩
def s__law_plus : SM :=
    (sRet [] (eCall m__law_low (aCons (eBin addD (eBin mulD (eIx (eVar 0) (eC (.int 0))) (eIx (eVar 1) (eC (.int 1)))) (eBin mulD (eIx (eVar 1) (eC (.int 0))) (eIx (eVar 0) (eC (.int 1))))) (aCons (eBin mulD (eIx (eVar 0) (eC (.int 1))) (eIx (eVar 1) (eC (.int 1)))) aNil))))
def m__law_plus : List D → M D := runB 2 2 s__law_plus
theorem ok__law_plus (C : Facts P w K mg base) : FnD P w K mg base 3 "_law_plus" m__law_plus := by
  obtain ⟨f, fd, hg, F⟩ := C.f__law_plus
  exact ⟨f, fd, ["a", "b"], hg, F.kp, fn_mk (N := ["a", "b"]) (s := s__law_plus) F sc__law_plus (fun cdv A outer s0 H E hr =>
    have sc := sc__law_plus
    (dss_one (ds_ret (B := []) (de_call (ok__law_low C) tk0 (hr.mono (by decide : 2 ≤ 2)) rfl (da_cons (de_bin op_addD (de_bin op_mulD (de_ix (de_var 0) de_int) (de_ix (de_var 1) de_int)) (de_bin op_mulD (de_ix (de_var 1) de_int) (de_ix (de_var 0) de_int))) (da_cons (de_bin op_mulD (de_ix (de_var 0) de_int) (de_ix (de_var 1) de_int)) da_nil)))))), F.bindsN fun _ _ _ _ _ _ us hl => match us, hl with | [_, _], _ => rfl⟩
theorem sc__law_sign : FnScope ["value"] ["value"] (defScope (top 31)) := ⟨rfl, rfl, rfl, by decide +kernel, rfl, by decide +kernel, by decide +kernel⟩
def s__law_sign : SM :=
    (sRet [] (eBin subD (eCB intO (aCons (eBin (fun x y => (gtD x y).map D.bl) (eVar 0) (eC (.int 0))) aNil)) (eCB intO (aCons (eBin (fun x y => (ltD x y).map D.bl) (eVar 0) (eC (.int 0))) aNil))))
def m__law_sign : List D → M D := runB 1 1 s__law_sign
theorem ok__law_sign (C : Facts P w K mg base) : FnD P w K mg base 1 "_law_sign" m__law_sign := by
  obtain ⟨f, fd, hg, F⟩ := C.f__law_sign
  exact ⟨f, fd, ["value"], hg, F.kp, fn_mk (N := ["value"]) (s := s__law_sign) F sc__law_sign (fun cdv A outer s0 H E hr =>
    have sc := sc__law_sign
    (dss_one (ds_ret (B := []) (de_bin op_subD (de_ct cr_intO rfl C.g_int (da_cons (de_cmp op_gtD (de_var 0) de_int rfl) da_nil)) (de_ct cr_intO rfl C.g_int (da_cons (de_cmp op_ltD (de_var 0) de_int rfl) da_nil)))))), F.bindsN fun _ _ _ _ _ _ us hl => match us, hl with | [_], _ => rfl⟩
theorem sc__law_order : FnScope ["a", "b"] ["a", "b"] (defScope (top 32)) := ⟨rfl, rfl, rfl, by decide +kernel, rfl, by decide +kernel, by decide +kernel⟩
def s__law_order : SM :=
    (sRet [] (eCall m__law_sign (aCons (eBin subD (eBin mulD (eIx (eVar 0) (eC (.int 0))) (eIx (eVar 1) (eC (.int 1)))) (eBin mulD (eIx (eVar 1) (eC (.int 0))) (eIx (eVar 0) (eC (.int 1))))) aNil)))
def m__law_order : List D → M D := runB 2 2 s__law_order
theorem ok__law_order (C : Facts P w K mg base) : FnD P w K mg base 2 "_law_order" m__law_order := by
  obtain ⟨f, fd, hg, F⟩ := C.f__law_order
  exact ⟨f, fd, ["a", "b"], hg, F.kp, fn_mk (N := ["a", "b"]) (s := s__law_order) F sc__law_order (fun cdv A outer s0 H E hr =>
    have sc := sc__law_order
    (dss_one (ds_ret (B := []) (de_call (ok__law_sign C) tk0 (hr.mono (by decide : 1 ≤ 1)) rfl (da_cons (de_bin op_subD (de_bin op_mulD (de_ix (de_var 0) de_int) (de_ix (de_var 1) de_int)) (de_bin op_mulD (de_ix (de_var 1) de_int) (de_ix (de_var 0) de_int))) da_nil))))), F.bindsN fun _ _ _ _ _ _ us hl => match us, hl with | [_, _], _ => rfl⟩
theorem sc__law_text : FnScope ["x"] ["x"] (defScope (top 33)) := ⟨rfl, rfl, rfl, by decide +kernel, rfl, by decide +kernel, by decide +kernel⟩
def s__law_text : SM :=
    (sRet [] (eIf (cBin eqD (eIx (eVar 0) (eC (.int 1))) (eC (.int 1))) (eCB strO1 (aCons (eIx (eVar 0) (eC (.int 0))) aNil)) (eBin addD (eBin addD (eCB strO1 (aCons (eIx (eVar 0) (eC (.int 0))) aNil)) (eC (.str "/"))) (eCB strO1 (aCons (eIx (eVar 0) (eC (.int 1))) aNil)))))
def m__law_text : List D → M D := runB 1 1 s__law_text
theorem ok__law_text (C : Facts P w K mg base) : FnD P w K mg base 1 "_law_text" m__law_text := by
  obtain ⟨f, fd, hg, F⟩ := C.f__law_text
  exact ⟨f, fd, ["x"], hg, F.kp, fn_mk (N := ["x"]) (s := s__law_text) F sc__law_text (fun cdv A outer s0 H E hr =>
    have sc := sc__law_text
    (dss_one (ds_ret (B := []) (de_if (dt_cmp (op_eqDD hr.units) (de_ix (de_var 0) de_int) de_int rfl) (de_ct cr_strO1 rfl C.g_str (da_cons (de_ix (de_var 0) de_int) da_nil)) (de_bin op_addD (de_bin op_addD (de_ct cr_strO1 rfl C.g_str (da_cons (de_ix (de_var 0) de_int) da_nil)) de_str) (de_ct cr_strO1 rfl C.g_str (da_cons (de_ix (de_var 0) de_int) da_nil))))))), F.bindsN fun _ _ _ _ _ _ us hl => match us, hl with | [_], _ => rfl⟩
theorem sc__law_whole : FnScope ["x"] ["x"] (defScope (top 34)) := ⟨rfl, rfl, rfl, by decide +kernel, rfl, by decide +kernel, by decide +kernel⟩
def s__law_whole : SM :=
    (sRet [] (eAnd (eIs Tb (.ty "int") (eVar 0)) (eNot (eIs Tb (.ty "bool") (eVar 0)))))
def m__law_whole : List D → M D := runB 1 1 s__law_whole
theorem ok__law_whole (C : Facts P w K mg base) : FnD P w K mg base 1 "_law_whole" m__law_whole := by
  obtain ⟨f, fd, hg, F⟩ := C.f__law_whole
  exact ⟨f, fd, ["x"], hg, F.kp, fn_mk (N := ["x"]) (s := s__law_whole) F sc__law_whole (fun cdv A outer s0 H E hr =>
    have sc := sc__law_whole
    (dss_one (ds_ret (B := []) (de_and (de_is C.cls rfl C.g_isinstance (de_var 0) (pkd_ty rfl C.g_int)) (de_one (de_not (de_is C.cls rfl C.g_isinstance (de_var 0) (pkd_ty rfl C.g_bool)))))))), F.bindsN fun _ _ _ _ _ _ us hl => match us, hl with | [_], _ => rfl⟩
theorem sc__law_pair : FnScope ["x"] ["x"] (defScope (top 35)) := ⟨rfl, rfl, rfl, by decide +kernel, rfl, by decide +kernel, by decide +kernel⟩
def s__law_pair : SM :=
    (sSeq (sIf [] (cOr (cNot (cVal (eIs Tb (.ty "tuple") (eVar 0)))) (cOr (cBin neD (eCB lenO (aCons (eVar 0) aNil)) (eC (.int 2))) (cOr (cNot (cVal (eCall m__law_whole (aCons (eIx (eVar 0) (eC (.int 0))) aNil)))) (cNot (cVal (eCall m__law_whole (aCons (eIx (eVar 0) (eC (.int 1))) aNil)))))))
     (sRet [] (eC (.bl false)))
     sNil)
    (sRet [] (eAnd (eBin (fun x y => (geD x y).map D.bl) (eIx (eVar 0) (eC (.int 1))) (eC (.int 1))) (eBin (fun x y => (eqD x y).map D.bl) (eCall m__law_gcd (aCons (eIx (eVar 0) (eC (.int 0))) (aCons (eIx (eVar 0) (eC (.int 1))) aNil))) (eC (.int 1))))))
def m__law_pair : List D → M D := runB 1 1 s__law_pair
theorem ok__law_pair (C : Facts P w K mg base) : FnD P w K mg base 2 "_law_pair" m__law_pair := by
  obtain ⟨f, fd, hg, F⟩ := C.f__law_pair
  exact ⟨f, fd, ["x"], hg, F.kp, fn_mk (N := ["x"]) (s := s__law_pair) F sc__law_pair (fun cdv A outer s0 H E hr =>
    have sc := sc__law_pair
    (dss_cons (ds_if (B := []) (dt_w (dw_or (dt_not (dt_val (de_is C.cls rfl C.g_isinstance (de_var 0) (pkd_ty rfl C.g_tuple)))) (dw_or (dt_cmp (op_neDD hr.units) (de_cb cr_lenO rfl C.g_len (da_cons (de_var 0) da_nil)) de_int rfl) (dw_or (dt_not (dt_val (de_call (ok__law_whole C) tk0 (hr.mono (by decide : 1 ≤ 1)) rfl (da_cons (de_ix (de_var 0) de_int) da_nil)))) (dw_or1 (dt_not (dt_val (de_call (ok__law_whole C) tk0 (hr.mono (by decide : 1 ≤ 1)) rfl (da_cons (de_ix (de_var 0) de_int) da_nil)))))))))
     (dss_one (ds_ret (B := []) de_bl))
     dss_nil)
    (dss_one (ds_ret (B := []) (de_and (de_cmp op_geD (de_ix (de_var 0) de_int) de_int rfl) (de_one (de_cmp (op_eqDD hr.units) (de_call (ok__law_gcd C) tk0 (hr.mono (by decide : 1 ≤ 1)) rfl (da_cons (de_ix (de_var 0) de_int) (da_cons (de_ix (de_var 0) de_int) da_nil))) de_int rfl))))))), F.bindsN fun _ _ _ _ _ _ us hl => match us, hl with | [_], _ => rfl⟩
theorem sc__law_truth : FnScope ["told", "due"] ["told", "due"] (defScope (top 36)) := ⟨rfl, rfl, rfl, by decide +kernel, rfl, by decide +kernel, by decide +kernel⟩
def s__law_truth : SM :=
    (sRet [] (eIf (cVal (eVar 1)) (eBin (fun x y => (isND x y).map D.bl) (eVar 0) (eC (.bl true))) (eBin (fun x y => (isND x y).map D.bl) (eVar 0) (eC (.bl false)))))
def m__law_truth : List D → M D := runB 2 2 s__law_truth
theorem ok__law_truth (C : Facts P w K mg base) : FnD P w K mg base 1 "_law_truth" m__law_truth := by
  obtain ⟨f, fd, hg, F⟩ := C.f__law_truth
  exact ⟨f, fd, ["told", "due"], hg, F.kp, fn_mk (N := ["told", "due"]) (s := s__law_truth) F sc__law_truth (fun cdv A outer s0 H E hr =>
    have sc := sc__law_truth
    (dss_one (ds_ret (B := []) (de_if (dt_val (de_var 1)) (de_cmp op_isD (de_var 0) de_bl rfl) (de_cmp op_isD (de_var 0) de_bl rfl))))), F.bindsN fun _ _ _ _ _ _ us hl => match us, hl with | [_, _], _ => rfl⟩
theorem sc__law_numbers : FnScope ["box", "made", "k", "number"] ["box"] (defScope (top 37)) := ⟨rfl, rfl, rfl, by decide +kernel, rfl, by decide +kernel, by decide +kernel⟩
def s__law_numbers : SM :=
    (sSeq (sNew 1 [] (lsz aNil))
    (sSeq (sFor [] (iRng1 (aCons (eC (.int 5)) aNil)) (tgN 2)
     (sSeq (sAsg [] (eCall m__law_low (aCons (eCall m__law_from (aCons (eVar 0) (aCons (eUn negD (eC (.int 9))) (aCons (eC (.int 9)) aNil)))) (aCons (eCall m__law_from (aCons (eVar 0) (aCons (eC (.int 1)) (aCons (eC (.int 4)) aNil)))) aNil))) (tgN 3))
     (sSeq (sApp 1 [] (eVar 3))
     (sIf [] (cBin eqD (eCall m__law_draw (aCons (eVar 0) (aCons (eC (.int 2)) aNil))) (eC (.int 0)))
      (sApp 1 [] (eCall m__law_plus (aCons (eVar 3) (aCons (eTup (aCons (eCall m__law_of (aCons (eVar 0) (aCons (eLst (aCons (eC (.int 1)) (aCons (eUn negD (eC (.int 1))) (aCons (eC (.int 2)) aNil)))) aNil))) (aCons (eBin powD (eBin powD (eC (.int 10)) (eC (.int 45))) (eC (.int 2))) aNil))) aNil))))
      sNil))))
    (sRet [1] (eVar 1))))
def m__law_numbers : List D → M D := runB 1 4 s__law_numbers
theorem ok__law_numbers (C : Facts P w K mg base) : FnD P w K mg base 4 "_law_numbers" m__law_numbers := by
  obtain ⟨f, fd, hg, F⟩ := C.f__law_numbers
  exact ⟨f, fd, ["box"], hg, F.kp, fn_mk (N := ["box", "made", "k", "number"]) (s := s__law_numbers) F sc__law_numbers (fun cdv A outer s0 H E hr =>
    have sc := sc__law_numbers
    (dss_cons (ds_new (i := 1) (B := []) sc.nd rfl (by first | exact Or.inl rfl | exact Or.inr rfl) (dn_lst da_nil))
    (dss_cons (ds_for (B := []) hp0 rfl (di_r1 rfl C.g_range (da_cons de_int da_nil)) (dg_name sc.nd (i := 2) rfl (by first | exact Or.inl rfl | exact Or.inr rfl))
     (dss_cons (ds_set (i := 3) (B := []) sc.nd rfl (by first | exact Or.inl rfl | exact Or.inr rfl) (de_call (ok__law_low C) tk0 (hr.mono (by decide : 2 ≤ 3)) rfl (da_cons (de_call (ok__law_from C) tk0 (hr.mono (by decide : 2 ≤ 3)) rfl (da_cons (de_var 0) (da_cons (de_un un_negD de_int) (da_cons de_int da_nil)))) (da_cons (de_call (ok__law_from C) tk0 (hr.mono (by decide : 2 ≤ 3)) rfl (da_cons (de_var 0) (da_cons de_int (da_cons de_int da_nil)))) da_nil))))
     (dss_cons (ds_app (i := 1) (B := []) rfl (by first | exact Or.inl rfl | exact Or.inr (Or.inl rfl) | exact Or.inr (Or.inr rfl)) (de_var 3))
     (dss_one (ds_if (B := []) (dt_cmp (op_eqDD hr.units) (de_call (ok__law_draw C) tk0 (hr.mono (by decide : 1 ≤ 3)) rfl (da_cons (de_var 0) (da_cons de_int da_nil))) de_int rfl)
      (dss_one (ds_app (i := 1) (B := []) rfl (by first | exact Or.inl rfl | exact Or.inr (Or.inl rfl) | exact Or.inr (Or.inr rfl)) (de_call (ok__law_plus C) tk0 (hr.mono (by decide : 3 ≤ 3)) rfl (da_cons (de_var 3) (da_cons (de_tup (da_cons (de_call (ok__law_of C) tk0 (hr.mono (by decide : 2 ≤ 3)) rfl (da_cons (de_var 0) (da_cons (de_lst (da_cons de_int (da_cons (de_un un_negD de_int) (da_cons de_int da_nil)))) da_nil))) (da_cons (de_bin op_powD (de_bin op_powD de_int de_int) de_int) da_nil))) da_nil)))))
      dss_nil)))))
    (dss_one (ds_ret (B := [1]) (de_var 1)))))), F.bindsN fun _ _ _ _ _ _ us hl => match us, hl with | [_], _ => rfl⟩
theorem sc__law_ends : FnScope ["box", "numbers", "low", "high", "form"] ["box", "numbers"] (defScope (top 38)) := ⟨rfl, rfl, rfl, by decide +kernel, rfl, by decide +kernel, by decide +kernel⟩
def s__law_ends : SM :=
    (sSeq (sPar [] (aCons (eCall m__law_of (aCons (eVar 0) (aCons (eVar 1) aNil))) (aCons (eCall m__law_of (aCons (eVar 0) (aCons (eVar 1) aNil))) aNil)) (tg2 2 3))
    (sSeq (sAsg [] (eCall m__law_draw (aCons (eVar 0) (aCons (eC (.int 8)) aNil))) (tgN 4))
    (sSeq (sIf [] (cOr (cBin eqD (eVar 4) (eC (.int 0))) (cBin eqD (eVar 2) (eVar 3)))
     (sRet [] (eIf (cBin eqD (eCall m__law_draw (aCons (eVar 0) (aCons (eC (.int 2)) aNil))) (eC (.int 0))) (eTup (aCons (eVar 2) (aCons (eC .non) aNil))) (eTup (aCons (eC .non) (aCons (eVar 3) aNil)))))
     sNil)
    (sSeq (sIf [] (cBin eqD (eVar 4) (eC (.int 1)))
     (sRet [] (eTup (aCons (eC .non) (aCons (eC .non) aNil))))
     sNil)
    (sRet [] (eIf (cBin ltD (eCall m__law_order (aCons (eVar 2) (aCons (eVar 3) aNil))) (eC (.int 0))) (eTup (aCons (eVar 2) (aCons (eVar 3) aNil))) (eTup (aCons (eVar 3) (aCons (eVar 2) aNil)))))))))
def m__law_ends : List D → M D := runB 2 5 s__law_ends
theorem ok__law_ends (C : Facts P w K mg base) : FnD P w K mg base 3 "_law_ends" m__law_ends := by
  obtain ⟨f, fd, hg, F⟩ := C.f__law_ends
  exact ⟨f, fd, ["box", "numbers"], hg, F.kp, fn_mk (N := ["box", "numbers", "low", "high", "form"]) (s := s__law_ends) F sc__law_ends (fun cdv A outer s0 H E hr =>
    have sc := sc__law_ends
    (dss_cons (ds_par (i := 2) (j := 3) (B := []) rfl sc.nd rfl rfl (by decide) rfl rfl (da_cons (de_call (ok__law_of C) tk0 (hr.mono (by decide : 2 ≤ 2)) rfl (da_cons (de_var 0) (da_cons (de_var 1) da_nil))) (da_cons (de_call (ok__law_of C) tk0 (hr.mono (by decide : 2 ≤ 2)) rfl (da_cons (de_var 0) (da_cons (de_var 1) da_nil))) da_nil)))
    (dss_cons (ds_set (i := 4) (B := []) sc.nd rfl (by first | exact Or.inl rfl | exact Or.inr rfl) (de_call (ok__law_draw C) tk0 (hr.mono (by decide : 1 ≤ 2)) rfl (da_cons (de_var 0) (da_cons de_int da_nil))))
    (dss_cons (ds_if (B := []) (dt_w (dw_or (dt_cmp (op_eqDD hr.units) (de_var 4) de_int rfl) (dw_or1 (dt_cmp (op_eqDD hr.units) (de_var 2) (de_var 3) rfl))))
     (dss_one (ds_ret (B := []) (de_if (dt_cmp (op_eqDD hr.units) (de_call (ok__law_draw C) tk0 (hr.mono (by decide : 1 ≤ 2)) rfl (da_cons (de_var 0) (da_cons de_int da_nil))) de_int rfl) (de_tup (da_cons (de_var 2) (da_cons de_non da_nil))) (de_tup (da_cons de_non (da_cons (de_var 3) da_nil))))))
     dss_nil)
    (dss_cons (ds_if (B := []) (dt_cmp (op_eqDD hr.units) (de_var 4) de_int rfl)
     (dss_one (ds_ret (B := []) (de_tup (da_cons de_non (da_cons de_non da_nil)))))
     dss_nil)
    (dss_one (ds_ret (B := []) (de_if (dt_cmp op_ltD (de_call (ok__law_order C) tk0 (hr.mono (by decide : 2 ≤ 2)) rfl (da_cons (de_var 2) (da_cons (de_var 3) da_nil))) de_int rfl) (de_tup (da_cons (de_var 2) (da_cons (de_var 3) da_nil))) (de_tup (da_cons (de_var 3) (da_cons (de_var 2) da_nil))))))))))), F.bindsN fun _ _ _ _ _ _ us hl => match us, hl with | [_, _], _ => rfl⟩
theorem sc__law_below : FnScope ["low", "other"] ["low", "other"] (defScope (top 39)) := ⟨rfl, rfl, rfl, by decide +kernel, rfl, by decide +kernel, by decide +kernel⟩
def s__law_below : SM :=
    (sRet [] (eOr (eBin (fun x y => (isND x y).map D.bl) (eVar 0) (eC .non)) (eAnd (eBin (fun x y => (isNotD x y).map D.bl) (eVar 1) (eC .non)) (eBin (fun x y => (leD x y).map D.bl) (eCall m__law_order (aCons (eVar 0) (aCons (eVar 1) aNil))) (eC (.int 0))))))
def m__law_below : List D → M D := runB 2 2 s__law_below
theorem ok__law_below (C : Facts P w K mg base) : FnD P w K mg base 3 "_law_below" m__law_below := by
  obtain ⟨f, fd, hg, F⟩ := C.f__law_below
  exact ⟨f, fd, ["low", "other"], hg, F.kp, fn_mk (N := ["low", "other"]) (s := s__law_below) F sc__law_below (fun cdv A outer s0 H E hr =>
    have sc := sc__law_below
    (dss_one (ds_ret (B := []) (de_or (de_cmp op_isD (de_var 0) de_non rfl) (de_one (de_and (de_cmp op_isNotD (de_var 1) de_non rfl) (de_one (de_cmp op_leD (de_call (ok__law_order C) tk0 (hr.mono (by decide : 2 ≤ 2)) rfl (da_cons (de_var 0) (da_cons (de_var 1) da_nil))) de_int rfl)))))))), F.bindsN fun _ _ _ _ _ _ us hl => match us, hl with | [_, _], _ => rfl⟩
theorem sc__law_above : FnScope ["high", "other"] ["high", "other"] (defScope (top 40)) := ⟨rfl, rfl, rfl, by decide +kernel, rfl, by decide +kernel, by decide +kernel⟩
def s__law_above : SM :=
    (sRet [] (eOr (eBin (fun x y => (isND x y).map D.bl) (eVar 0) (eC .non)) (eAnd (eBin (fun x y => (isNotD x y).map D.bl) (eVar 1) (eC .non)) (eBin (fun x y => (geD x y).map D.bl) (eCall m__law_order (aCons (eVar 0) (aCons (eVar 1) aNil))) (eC (.int 0))))))
def m__law_above : List D → M D := runB 2 2 s__law_above
theorem ok__law_above (C : Facts P w K mg base) : FnD P w K mg base 3 "_law_above" m__law_above := by
  obtain ⟨f, fd, hg, F⟩ := C.f__law_above
  exact ⟨f, fd, ["high", "other"], hg, F.kp, fn_mk (N := ["high", "other"]) (s := s__law_above) F sc__law_above (fun cdv A outer s0 H E hr =>
    have sc := sc__law_above
    (dss_one (ds_ret (B := []) (de_or (de_cmp op_isD (de_var 0) de_non rfl) (de_one (de_and (de_cmp op_isNotD (de_var 1) de_non rfl) (de_one (de_cmp op_geD (de_call (ok__law_order C) tk0 (hr.mono (by decide : 2 ≤ 2)) rfl (da_cons (de_var 0) (da_cons (de_var 1) da_nil))) de_int rfl)))))))), F.bindsN fun _ _ _ _ _ _ us hl => match us, hl with | [_, _], _ => rfl⟩
theorem sc__law_hull : FnScope ["a", "b"] ["a", "b"] (defScope (top 41)) := ⟨rfl, rfl, rfl, by decide +kernel, rfl, by decide +kernel, by decide +kernel⟩
def s__law_hull : SM :=
    (sRet [] (eTup (aCons (eIf (cVal (eCall m__law_below (aCons (eIx (eVar 0) (eC (.int 0))) (aCons (eIx (eVar 1) (eC (.int 0))) aNil)))) (eIx (eVar 0) (eC (.int 0))) (eIx (eVar 1) (eC (.int 0)))) (aCons (eIf (cVal (eCall m__law_above (aCons (eIx (eVar 0) (eC (.int 1))) (aCons (eIx (eVar 1) (eC (.int 1))) aNil)))) (eIx (eVar 0) (eC (.int 1))) (eIx (eVar 1) (eC (.int 1)))) aNil))))
def m__law_hull : List D → M D := runB 2 2 s__law_hull
theorem ok__law_hull (C : Facts P w K mg base) : FnD P w K mg base 4 "_law_hull" m__law_hull := by
  obtain ⟨f, fd, hg, F⟩ := C.f__law_hull
  exact ⟨f, fd, ["a", "b"], hg, F.kp, fn_mk (N := ["a", "b"]) (s := s__law_hull) F sc__law_hull (fun cdv A outer s0 H E hr =>
    have sc := sc__law_hull
    (dss_one (ds_ret (B := []) (de_tup (da_cons (de_if (dt_val (de_call (ok__law_below C) tk0 (hr.mono (by decide : 3 ≤ 3)) rfl (da_cons (de_ix (de_var 0) de_int) (da_cons (de_ix (de_var 1) de_int) da_nil)))) (de_ix (de_var 0) de_int) (de_ix (de_var 1) de_int)) (da_cons (de_if (dt_val (de_call (ok__law_above C) tk0 (hr.mono (by decide : 3 ≤ 3)) rfl (da_cons (de_ix (de_var 0) de_int) (da_cons (de_ix (de_var 1) de_int) da_nil)))) (de_ix (de_var 0) de_int) (de_ix (de_var 1) de_int)) da_nil)))))), F.bindsN fun _ _ _ _ _ _ us hl => match us, hl with | [_, _], _ => rfl⟩
theorem sc__law_shared : FnScope ["a", "b", "low", "high"] ["a", "b"] (defScope (top 42)) := ⟨rfl, rfl, rfl, by decide +kernel, rfl, by decide +kernel, by decide +kernel⟩
def s__law_shared : SM :=
    (sSeq (sAsg [] (eIf (cVal (eCall m__law_below (aCons (eIx (eVar 0) (eC (.int 0))) (aCons (eIx (eVar 1) (eC (.int 0))) aNil)))) (eIx (eVar 1) (eC (.int 0))) (eIx (eVar 0) (eC (.int 0)))) (tgN 2))
    (sSeq (sAsg [] (eIf (cVal (eCall m__law_above (aCons (eIx (eVar 0) (eC (.int 1))) (aCons (eIx (eVar 1) (eC (.int 1))) aNil)))) (eIx (eVar 1) (eC (.int 1))) (eIx (eVar 0) (eC (.int 1)))) (tgN 3))
    (sSeq (sIf [] (cAnd (cBin isNotD (eVar 2) (eC .non)) (cAnd (cBin isNotD (eVar 3) (eC .non)) (cBin geD (eCall m__law_order (aCons (eVar 2) (aCons (eVar 3) aNil))) (eC (.int 0)))))
     (sRet [] (eC .non))
     sNil)
    (sRet [] (eTup (aCons (eVar 2) (aCons (eVar 3) aNil)))))))
def m__law_shared : List D → M D := runB 2 4 s__law_shared
theorem ok__law_shared (C : Facts P w K mg base) : FnD P w K mg base 4 "_law_shared" m__law_shared := by
  obtain ⟨f, fd, hg, F⟩ := C.f__law_shared
  exact ⟨f, fd, ["a", "b"], hg, F.kp, fn_mk (N := ["a", "b", "low", "high"]) (s := s__law_shared) F sc__law_shared (fun cdv A outer s0 H E hr =>
    have sc := sc__law_shared
    (dss_cons (ds_set (i := 2) (B := []) sc.nd rfl (by first | exact Or.inl rfl | exact Or.inr rfl) (de_if (dt_val (de_call (ok__law_below C) tk0 (hr.mono (by decide : 3 ≤ 3)) rfl (da_cons (de_ix (de_var 0) de_int) (da_cons (de_ix (de_var 1) de_int) da_nil)))) (de_ix (de_var 1) de_int) (de_ix (de_var 0) de_int)))
    (dss_cons (ds_set (i := 3) (B := []) sc.nd rfl (by first | exact Or.inl rfl | exact Or.inr rfl) (de_if (dt_val (de_call (ok__law_above C) tk0 (hr.mono (by decide : 3 ≤ 3)) rfl (da_cons (de_ix (de_var 0) de_int) (da_cons (de_ix (de_var 1) de_int) da_nil)))) (de_ix (de_var 1) de_int) (de_ix (de_var 0) de_int)))
    (dss_cons (ds_if (B := []) (dt_w (dw_and (dt_cmp op_isNotD (de_var 2) de_non rfl) (dw_and (dt_cmp op_isNotD (de_var 3) de_non rfl) (dw_and1 (dt_cmp op_geD (de_call (ok__law_order C) tk0 (hr.mono (by decide : 2 ≤ 3)) rfl (da_cons (de_var 2) (da_cons (de_var 3) da_nil))) de_int rfl)))))
     (dss_one (ds_ret (B := []) de_non))
     dss_nil)
    (dss_one (ds_ret (B := []) (de_tup (da_cons (de_var 2) (da_cons (de_var 3) da_nil))))))))), F.bindsN fun _ _ _ _ _ _ us hl => match us, hl with | [_, _], _ => rfl⟩
theorem sc__law_holds : FnScope ["ends", "x"] ["ends", "x"] (defScope (top 43)) := ⟨rfl, rfl, rfl, by decide +kernel, rfl, by decide +kernel, by decide +kernel⟩
def s__law_holds : SM :=
    (sSeq (sIf [] (cAnd (cBin isNotD (eIx (eVar 0) (eC (.int 0))) (eC .non)) (cBin geD (eCall m__law_order (aCons (eIx (eVar 0) (eC (.int 0))) (aCons (eVar 1) aNil))) (eC (.int 0))))
     (sRet [] (eC (.bl false)))
     sNil)
    (sRet [] (eOr (eBin (fun x y => (isND x y).map D.bl) (eIx (eVar 0) (eC (.int 1))) (eC .non)) (eBin (fun x y => (ltD x y).map D.bl) (eCall m__law_order (aCons (eVar 1) (aCons (eIx (eVar 0) (eC (.int 1))) aNil))) (eC (.int 0))))))
def m__law_holds : List D → M D := runB 2 2 s__law_holds
theorem ok__law_holds (C : Facts P w K mg base) : FnD P w K mg base 3 "_law_holds" m__law_holds := by
  obtain ⟨f, fd, hg, F⟩ := C.f__law_holds
  exact ⟨f, fd, ["ends", "x"], hg, F.kp, fn_mk (N := ["ends", "x"]) (s := s__law_holds) F sc__law_holds (fun cdv A outer s0 H E hr =>
    have sc := sc__law_holds
    (dss_cons (ds_if (B := []) (dt_w (dw_and (dt_cmp op_isNotD (de_ix (de_var 0) de_int) de_non rfl) (dw_and1 (dt_cmp op_geD (de_call (ok__law_order C) tk0 (hr.mono (by decide : 2 ≤ 2)) rfl (da_cons (de_ix (de_var 0) de_int) (da_cons (de_var 1) da_nil))) de_int rfl))))
     (dss_one (ds_ret (B := []) de_bl))
     dss_nil)
    (dss_one (ds_ret (B := []) (de_or (de_cmp op_isD (de_ix (de_var 0) de_int) de_non rfl) (de_one (de_cmp op_ltD (de_call (ok__law_order C) tk0 (hr.mono (by decide : 2 ≤ 2)) rfl (da_cons (de_var 1) (da_cons (de_ix (de_var 0) de_int) da_nil))) de_int rfl))))))), F.bindsN fun _ _ _ _ _ _ us hl => match us, hl with | [_, _], _ => rfl⟩
theorem sc__law_written : FnScope ["ends", "end"] ["ends"] (defScope (top 44)) := ⟨rfl, rfl, rfl, by decide +kernel, rfl, by decide +kernel, by decide +kernel⟩
def s__law_written : SM :=
    (sRet [] (eBin addD (eBin addD (eC (.str "( ")) (eM joinO (eC (.str " ")) (aCons (eL (eLC (iVal (eVar 0)) [1] (tgN 1) cYes (eIf (cBin isND (eVar 1) (eC .non)) (eC (.str "-")) (eCall m__law_text (aCons (eVar 1) aNil))))) aNil))) (eC (.str " )"))))
def m__law_written : List D → M D := runB 1 2 s__law_written
theorem ok__law_written (C : Facts P w K mg base) : FnD P w K mg base 2 "_law_written" m__law_written := by
  obtain ⟨f, fd, hg, F⟩ := C.f__law_written
  exact ⟨f, fd, ["ends"], hg, F.kp, fn_mk (N := ["ends", "end"]) (s := s__law_written) F sc__law_written (fun cdv A outer s0 H E hr =>
    have sc := sc__law_written
    (dss_one (ds_ret (B := []) (de_bin op_addD (de_bin op_addD de_str (de_m PySem.F.slot_str_join PySem.F.type_str_join mt_joinO de_str (da_cons (de_dn (dn_lc (own := [("end", 1)]) rfl sc.nd (di_val (de_var 0)) (blk_ok rfl) (fun s H C0 cl fp => (dg_name sc.nd (i := 1) rfl (by first | exact Or.inl rfl | exact Or.inr rfl))) (fun s H C0 cl fp => dts_nil) (fun s H C0 cl fp => (de_if (dt_cmp op_isD (de_var 1) de_non rfl) de_str (de_call (ok__law_text C) tkB (hr.mono (by decide : 1 ≤ 1)) rfl (da_cons (de_var 1) da_nil)))))) da_nil))) de_str)))), F.bindsN fun _ _ _ _ _ _ us hl => match us, hl with | [_], _ => rfl⟩
theorem sc__law_right : FnScope ["told", "ends", "end", "due"] ["told", "ends"] (defScope (top 45)) := ⟨rfl, rfl, rfl, by decide +kernel, rfl, by decide +kernel, by decide +kernel⟩
def s__law_right : SM :=
    (sSeq (sIf [] (cNot (cVal (eIs Tb (.own "Stretch") (eVar 0))))
     (sRet [] (eC (.bl false)))
     sNil)
    (sSeq (sFor [] (iVal (eLst (aCons (eTup (aCons (eFld Tb "low" (eVar 0)) (aCons (eIx (eVar 1) (eC (.int 0))) aNil))) (aCons (eTup (aCons (eFld Tb "high" (eVar 0)) (aCons (eIx (eVar 1) (eC (.int 1))) aNil))) aNil)))) (tgT 2 (tgsCons (tgN 2) (tgsCons (tgN 3) tgsNil)))
     (sIf [] (cBin isND (eVar 3) (eC .non))
      (sIf [] (cBin isNotD (eVar 2) (eC .non))
       (sRet [] (eC (.bl false)))
       sNil)
      (sIf [] (cOr (cNot (cVal (eCall m__law_pair (aCons (eVar 2) aNil)))) (cBin neD (eVar 2) (eVar 3)))
       (sRet [] (eC (.bl false)))
       sNil)))
    (sRet [] (eAnd (eIs Tb (.ty "str") (eFld Tb "text" (eVar 0))) (eBin (fun x y => (eqD x y).map D.bl) (eFld Tb "text" (eVar 0)) (eCall m__law_written (aCons (eVar 1) aNil)))))))
def m__law_right : List D → M D := runB 2 4 s__law_right
theorem ok__law_right (C : Facts P w K mg base) : FnD P w K mg base 3 "_law_right" m__law_right := by
  obtain ⟨f, fd, hg, F⟩ := C.f__law_right
  exact ⟨f, fd, ["told", "ends"], hg, F.kp, fn_mk (N := ["told", "ends", "end", "due"]) (s := s__law_right) F sc__law_right (fun cdv A outer s0 H E hr =>
    have sc := sc__law_right
    (dss_cons (ds_if (B := []) (dt_not (dt_val (de_is C.cls rfl C.g_isinstance (de_var 0) (pkd_ownE rfl C.c_Stretch))))
     (dss_one (ds_ret (B := []) de_bl))
     dss_nil)
    (dss_cons (ds_for (B := []) hp0 rfl (di_val (de_lst (da_cons (de_tup (da_cons (de_fld C.cls (de_var 0)) (da_cons (de_ix (de_var 1) de_int) da_nil))) (da_cons (de_tup (da_cons (de_fld C.cls (de_var 0)) (da_cons (de_ix (de_var 1) de_int) da_nil))) da_nil)))) (dg_tup rfl (dgs_cons (dg_name sc.nd (i := 2) rfl (by first | exact Or.inl rfl | exact Or.inr rfl)) (dgs_cons (dg_name sc.nd (i := 3) rfl (by first | exact Or.inl rfl | exact Or.inr rfl)) dgs_nil)))
     (dss_one (ds_if (B := []) (dt_cmp op_isD (de_var 3) de_non rfl)
      (dss_one (ds_if (B := []) (dt_cmp op_isNotD (de_var 2) de_non rfl)
       (dss_one (ds_ret (B := []) de_bl))
       dss_nil))
      (dss_one (ds_if (B := []) (dt_w (dw_or (dt_not (dt_val (de_call (ok__law_pair C) tk0 (hr.mono (by decide : 2 ≤ 2)) rfl (da_cons (de_var 2) da_nil)))) (dw_or1 (dt_cmp (op_neDD hr.units) (de_var 2) (de_var 3) rfl))))
       (dss_one (ds_ret (B := []) de_bl))
       dss_nil)))))
    (dss_one (ds_ret (B := []) (de_and (de_is C.cls rfl C.g_isinstance (de_fld C.cls (de_var 0)) (pkd_ty rfl C.g_str)) (de_one (de_cmp (op_eqDD hr.units) (de_fld C.cls (de_var 0)) (de_call (ok__law_written C) tk0 (hr.mono (by decide : 2 ≤ 2)) rfl (da_cons (de_var 1) da_nil)) rfl)))))))), F.bindsN fun _ _ _ _ _ _ us hl => match us, hl with | [_, _], _ => rfl⟩
theorem sc__law_two_right : FnScope ["one", "two", "a", "b", "inner", "shared", "due"] ["one", "two", "a", "b"] (defScope (top 46)) := ⟨rfl, rfl, rfl, by decide +kernel, rfl, by decide +kernel, by decide +kernel⟩
def s__law_two_right : SM :=
    (sSeq (sAsg [] (eAnd (eCall m__law_below (aCons (eIx (eVar 3) (eC (.int 0))) (aCons (eIx (eVar 2) (eC (.int 0))) aNil))) (eCall m__law_above (aCons (eIx (eVar 3) (eC (.int 1))) (aCons (eIx (eVar 2) (eC (.int 1))) aNil)))) (tgN 4))
    (sSeq (sIf [] (cOr (cNot (cVal (eCall m__law_truth (aCons (eMeth "Stretch" "within" m_Stretch_within (eVar 0) (aCons (eVar 1) aNil)) (aCons (eVar 4) aNil))))) (cOr (cNot (cVal (eCall m__law_right (aCons (eMeth "Stretch" "hull" m_Stretch_hull (eVar 0) (aCons (eVar 1) aNil)) (aCons (eCall m__law_hull (aCons (eVar 2) (aCons (eVar 3) aNil))) aNil))))) (cNot (cVal (eCall m__law_truth (aCons (eBinM (eqO Tb "Stretch" m_Stretch___eq__) (eVar 0) (eVar 1)) (aCons (eBin (fun x y => (eqD x y).map D.bl) (eVar 2) (eVar 3)) aNil)))))))
     (sRet [] (eC (.bl false)))
     sNil)
    (sSeq (sPar [] (aCons (eMeth "Stretch" "shared" m_Stretch_shared (eVar 0) (aCons (eVar 1) aNil)) (aCons (eCall m__law_shared (aCons (eVar 2) (aCons (eVar 3) aNil))) aNil)) (tg2 5 6))
    (sRet [] (eIf (cBin isND (eVar 6) (eC .non)) (eBin (fun x y => (isND x y).map D.bl) (eVar 5) (eC .non)) (eCall m__law_right (aCons (eVar 5) (aCons (eVar 6) aNil))))))))
def m__law_two_right : List D → M D := runB 4 7 s__law_two_right
theorem ok__law_two_right (C : Facts P w K mg base) : FnD P w K mg base 8 "_law_two_right" m__law_two_right := by
  obtain ⟨f, fd, hg, F⟩ := C.f__law_two_right
  exact ⟨f, fd, ["one", "two", "a", "b"], hg, F.kp, fn_mk (N := ["one", "two", "a", "b", "inner", "shared", "due"]) (s := s__law_two_right) F sc__law_two_right (fun cdv A outer s0 H E hr =>
    have sc := sc__law_two_right
    (dss_cons (ds_set (i := 4) (B := []) sc.nd rfl (by first | exact Or.inl rfl | exact Or.inr rfl) (de_and (de_call (ok__law_below C) tk0 (hr.mono (by decide : 3 ≤ 7)) rfl (da_cons (de_ix (de_var 3) de_int) (da_cons (de_ix (de_var 2) de_int) da_nil))) (de_one (de_call (ok__law_above C) tk0 (hr.mono (by decide : 3 ≤ 7)) rfl (da_cons (de_ix (de_var 3) de_int) (da_cons (de_ix (de_var 2) de_int) da_nil))))))
    (dss_cons (ds_if (B := []) (dt_w (dw_or (dt_not (dt_val (de_call (ok__law_truth C) tk0 (hr.mono (by decide : 1 ≤ 7)) rfl (da_cons (de_meth (ok_Stretch_within C) tk0 (hr.mono (by decide : 3 ≤ 7)) (de_var 0) (da_cons (de_var 1) da_nil)) (da_cons (de_var 4) da_nil))))) (dw_or (dt_not (dt_val (de_call (ok__law_right C) tk0 (hr.mono (by decide : 3 ≤ 7)) rfl (da_cons (de_meth (ok_Stretch_hull C) tk0 (hr.mono (by decide : 7 ≤ 7)) (de_var 0) (da_cons (de_var 1) da_nil)) (da_cons (de_call (ok__law_hull C) tk0 (hr.mono (by decide : 4 ≤ 7)) rfl (da_cons (de_var 2) (da_cons (de_var 3) da_nil))) da_nil))))) (dw_or1 (dt_not (dt_val (de_call (ok__law_truth C) tk0 (hr.mono (by decide : 1 ≤ 7)) rfl (da_cons (de_cmpM (op_eqO C.cls C.nf_Stretch (eq_cool (ok_Stretch___eq__ C) (hr.mono (by decide : 1 ≤ 7))) hr.units) (de_var 0) (de_var 1)) (da_cons (de_cmp (op_eqDD hr.units) (de_var 2) (de_var 3) rfl) da_nil)))))))))
     (dss_one (ds_ret (B := []) de_bl))
     dss_nil)
    (dss_cons (ds_par (i := 5) (j := 6) (B := []) rfl sc.nd rfl rfl (by decide) rfl rfl (da_cons (de_meth (ok_Stretch_shared C) tk0 (hr.mono (by decide : 7 ≤ 7)) (de_var 0) (da_cons (de_var 1) da_nil)) (da_cons (de_call (ok__law_shared C) tk0 (hr.mono (by decide : 4 ≤ 7)) rfl (da_cons (de_var 2) (da_cons (de_var 3) da_nil))) da_nil)))
    (dss_one (ds_ret (B := []) (de_if (dt_cmp op_isD (de_var 6) de_non rfl) (de_cmp op_isD (de_var 5) de_non rfl) (de_call (ok__law_right C) tk0 (hr.mono (by decide : 3 ≤ 7)) rfl (da_cons (de_var 5) (da_cons (de_var 6) da_nil)))))))))), F.bindsN fun _ _ _ _ _ _ us hl => match us, hl with | [_, _, _, _], _ => rfl⟩
theorem sc__law_three_right : FnScope ["made", "ends", "turn", "due", "part", "one", "two", "three", "told", "rest"] ["made", "ends"] (defScope (top 47)) := ⟨rfl, rfl, rfl, by decide +kernel, rfl, by decide +kernel, by decide +kernel⟩
def s__law_three_right : SM :=
    (sSeq (sFor [] (iRng1 (aCons (eC (.int 2)) aNil)) (tgN 2)
     (sSeq (sAsg [] (eIf (cBin eqD (eVar 2) (eC (.int 0))) (eTup (aCons (eC (.int 0)) (aCons (eC (.int 1)) (aCons (eC (.int 2)) aNil)))) (eTup (aCons (eC (.int 2)) (aCons (eC (.int 1)) (aCons (eC (.int 0)) aNil))))) (tgT 3 (tgsCons (tgN 5) (tgsCons (tgN 6) (tgsCons (tgN 7) tgsNil)))))
     (sSeq (sAsg [] (eCall m__law_hull (aCons (eCall m__law_hull (aCons (eIx (eVar 1) (eVar 5)) (aCons (eIx (eVar 1) (eVar 6)) aNil))) (aCons (eIx (eVar 1) (eVar 7)) aNil))) (tgN 3))
     (sSeq (sIf [] (cNot (cVal (eCall m__law_right (aCons (eMeth "Stretch" "hull" m_Stretch_hull (eMeth "Stretch" "hull" m_Stretch_hull (eIx (eVar 0) (eVar 5)) (aCons (eIx (eVar 0) (eVar 6)) aNil)) (aCons (eIx (eVar 0) (eVar 7)) aNil)) (aCons (eVar 3) aNil)))))
      (sRet [] (eC (.bl false)))
      sNil)
     (sSeq (sAsg [] (eCall m__law_shared (aCons (eIx (eVar 1) (eVar 5)) (aCons (eIx (eVar 1) (eVar 6)) aNil))) (tgN 4))
     (sIf [] (cBin isNotD (eVar 4) (eC .non))
      (sSeq (sPar [] (aCons (eMeth "Stretch" "shared" m_Stretch_shared (eMeth "Stretch" "shared" m_Stretch_shared (eIx (eVar 0) (eVar 5)) (aCons (eIx (eVar 0) (eVar 6)) aNil)) (aCons (eIx (eVar 0) (eVar 7)) aNil)) (aCons (eCall m__law_shared (aCons (eVar 4) (aCons (eIx (eVar 1) (eVar 7)) aNil))) aNil)) (tg2 8 9))
      (sIf [] (cNot (cIf (cBin isND (eVar 9) (eC .non)) (cBin isND (eVar 8) (eC .non)) (cVal (eCall m__law_right (aCons (eVar 8) (aCons (eVar 9) aNil))))))
       (sRet [] (eC (.bl false)))
       sNil))
      sNil))))))
    (sRet [] (eC (.bl true))))
def m__law_three_right : List D → M D := runB 2 10 s__law_three_right
theorem ok__law_three_right (C : Facts P w K mg base) : FnD P w K mg base 8 "_law_three_right" m__law_three_right := by
  obtain ⟨f, fd, hg, F⟩ := C.f__law_three_right
  exact ⟨f, fd, ["made", "ends"], hg, F.kp, fn_mk (N := ["made", "ends", "turn", "due", "part", "one", "two", "three", "told", "rest"]) (s := s__law_three_right) F sc__law_three_right (fun cdv A outer s0 H E hr =>
    have sc := sc__law_three_right
    (dss_cons (ds_for (B := []) hp0 rfl (di_r1 rfl C.g_range (da_cons de_int da_nil)) (dg_name sc.nd (i := 2) rfl (by first | exact Or.inl rfl | exact Or.inr rfl))
     (dss_cons (ds_asg (B := []) (de_if (dt_cmp (op_eqDD hr.units) (de_var 2) de_int rfl) (de_tup (da_cons de_int (da_cons de_int (da_cons de_int da_nil)))) (de_tup (da_cons de_int (da_cons de_int (da_cons de_int da_nil))))) (dg_tup rfl (dgs_cons (dg_name sc.nd (i := 5) rfl (by first | exact Or.inl rfl | exact Or.inr rfl)) (dgs_cons (dg_name sc.nd (i := 6) rfl (by first | exact Or.inl rfl | exact Or.inr rfl)) (dgs_cons (dg_name sc.nd (i := 7) rfl (by first | exact Or.inl rfl | exact Or.inr rfl)) dgs_nil)))))
     (dss_cons (ds_set (i := 3) (B := []) sc.nd rfl (by first | exact Or.inl rfl | exact Or.inr rfl) (de_call (ok__law_hull C) tk0 (hr.mono (by decide : 4 ≤ 7)) rfl (da_cons (de_call (ok__law_hull C) tk0 (hr.mono (by decide : 4 ≤ 7)) rfl (da_cons (de_ix (de_var 1) (de_var 5)) (da_cons (de_ix (de_var 1) (de_var 6)) da_nil))) (da_cons (de_ix (de_var 1) (de_var 7)) da_nil))))
     (dss_cons (ds_if (B := []) (dt_not (dt_val (de_call (ok__law_right C) tk0 (hr.mono (by decide : 3 ≤ 7)) rfl (da_cons (de_meth (ok_Stretch_hull C) tk0 (hr.mono (by decide : 7 ≤ 7)) (de_meth (ok_Stretch_hull C) tk0 (hr.mono (by decide : 7 ≤ 7)) (de_ix (de_var 0) (de_var 5)) (da_cons (de_ix (de_var 0) (de_var 6)) da_nil)) (da_cons (de_ix (de_var 0) (de_var 7)) da_nil)) (da_cons (de_var 3) da_nil)))))
      (dss_one (ds_ret (B := []) de_bl))
      dss_nil)
     (dss_cons (ds_set (i := 4) (B := []) sc.nd rfl (by first | exact Or.inl rfl | exact Or.inr rfl) (de_call (ok__law_shared C) tk0 (hr.mono (by decide : 4 ≤ 7)) rfl (da_cons (de_ix (de_var 1) (de_var 5)) (da_cons (de_ix (de_var 1) (de_var 6)) da_nil))))
     (dss_one (ds_if (B := []) (dt_cmp op_isNotD (de_var 4) de_non rfl)
      (dss_cons (ds_par (i := 8) (j := 9) (B := []) rfl sc.nd rfl rfl (by decide) rfl rfl (da_cons (de_meth (ok_Stretch_shared C) tk0 (hr.mono (by decide : 7 ≤ 7)) (de_meth (ok_Stretch_shared C) tk0 (hr.mono (by decide : 7 ≤ 7)) (de_ix (de_var 0) (de_var 5)) (da_cons (de_ix (de_var 0) (de_var 6)) da_nil)) (da_cons (de_ix (de_var 0) (de_var 7)) da_nil)) (da_cons (de_call (ok__law_shared C) tk0 (hr.mono (by decide : 4 ≤ 7)) rfl (da_cons (de_var 4) (da_cons (de_ix (de_var 1) (de_var 7)) da_nil))) da_nil)))
      (dss_one (ds_if (B := []) (dt_not (dt_ifE (dt_cmp op_isD (de_var 9) de_non rfl) (dt_cmp op_isD (de_var 8) de_non rfl) (dt_val (de_call (ok__law_right C) tk0 (hr.mono (by decide : 3 ≤ 7)) rfl (da_cons (de_var 8) (da_cons (de_var 9) da_nil))))))
       (dss_one (ds_ret (B := []) de_bl))
       dss_nil)))
      dss_nil)))))))
    (dss_one (ds_ret (B := []) de_bl)))), F.bindsN fun _ _ _ _ _ _ us hl => match us, hl with | [_, _], _ => rfl⟩
theorem sc__law_text_refused : FnScope ["box", "low", "high", "first", "second", "wrong", "given", "told", "e", "pair"] ["box", "low", "high"] (defScope (top 48)) := ⟨rfl, rfl, rfl, by decide +kernel, rfl, by decide +kernel, by decide +kernel⟩
def s__law_text_refused : SM :=
    (sSeq (sPar [] (aCons (eCall m__law_text (aCons (eVar 1) aNil)) (aCons (eCall m__law_text (aCons (eVar 2) aNil)) aNil)) (tg2 3 4))
    (sSeq (sAsg [] (eLst (aCons (eBin addD (eBin addD (eBin addD (eBin addD (eC (.str "( ")) (eVar 4)) (eC (.str " "))) (eVar 3)) (eC (.str " )"))) (aCons (eBin addD (eBin addD (eBin addD (eBin addD (eC (.str "( ")) (eVar 3)) (eC (.str " "))) (eVar 3)) (eC (.str " )"))) (aCons (eBin addD (eBin addD (eBin addD (eBin addD (eC (.str "(")) (eVar 3)) (eC (.str " "))) (eVar 4)) (eC (.str ")"))) aNil)))) (tgN 5))
    (sSeq (sAsg [] (eL (lCat (eVar 5) (eLst (aCons (eBin addD (eBin addD (eBin addD (eBin addD (eC (.str "( ")) (eVar 3)) (eC (.str "  "))) (eVar 4)) (eC (.str " )"))) (aCons (eBin addD (eBin addD (eBin addD (eBin addD (eC (.str "( ")) (eVar 3)) (eC (.str " "))) (eVar 4)) (eC (.str " ) "))) (aCons (eBin addD (eBin addD (eC (.str "( ")) (eVar 3)) (eC (.str " )"))) (aCons (eBin addD (eBin addD (eC (.str "( -0 ")) (eVar 4)) (eC (.str " )"))) aNil))))))) (tgN 5))
    (sSeq (sAsg [] (eL (lCat (eVar 5) (eLst (aCons (eBin addD (eBin addD (eBin addD (eBin addD (eC (.str "( ")) (eCB strO1 (aCons (eBin mulD (eC (.int 2)) (eIx (eVar 1) (eC (.int 0)))) aNil))) (eC (.str "/"))) (eCB strO1 (aCons (eBin mulD (eC (.int 2)) (eIx (eVar 1) (eC (.int 1)))) aNil))) (eC (.str " - )"))) (aCons (eBin addD (eBin addD (eBin addD (eBin addD (eC (.str "[ ")) (eVar 3)) (eC (.str " "))) (eVar 4)) (eC (.str " ]"))) (aCons (eC .non) (aCons (eC (.int 7)) (aCons (eTup (aCons (eVar 1) (aCons (eVar 2) aNil))) (aCons (eC (.bl true)) aNil))))))))) (tgN 5))
    (sSeq (sParN 6 7 [] (eCall m__law_of (aCons (eVar 0) (aCons (eVar 5) aNil))))
    (sSeq (sTry 8 "BadStretch" ["BadNumber"]
     (sDrop [] (eCall m_Stretch_init (aCons (eVar 6) aNil)))
     (sApp 7 [] (eXf 8 "text" ["text", "why"])))
    (sSeq (sIf [7] (cOr (cBin neD (eVar 7) (eLst (aCons (eVar 6) aNil))) (cBin neD (eBin (fun x y => (isND x y).map D.bl) (eVar 6) (eC (.bl true))) (eBin (fun x y => (isND x y).map D.bl) (eIx (eVar 7) (eC (.int 0))) (eC (.bl true)))))
     (sRet [] (eC (.bl false)))
     sNil)
    (sSeq (sAsg [] (eCall m__law_of (aCons (eVar 0) (aCons (eLst (aCons (eTup (aCons (eVar 2) (aCons (eVar 1) aNil))) (aCons (eTup (aCons (eVar 1) (aCons (eVar 1) aNil))) (aCons (eTup (aCons (eVar 1) (aCons (eC (.str "1")) aNil))) (aCons (eTup (aCons (eC .non) (aCons (eC (.bl true)) aNil))) (aCons (eTup (aCons (eLst (aCons (eC (.int 1)) (aCons (eC (.int 2)) aNil))) (aCons (eVar 2) aNil))) (aCons (eTup (aCons (eTup (aCons (eC (.int 1)) (aCons (eC (.int 0)) aNil))) (aCons (eVar 2) aNil))) aNil))))))) aNil))) (tgN 9))
    (sSeq (sTry 8 "BadStretch" ["BadNumber"]
     (sDrop [] (eCall m_stretch_of (aCons (eIx (eVar 9) (eC (.int 0))) (aCons (eIx (eVar 9) (eC (.int 1))) aNil))))
     (sRet [] (eAnd (eBin (fun x y => (eqD x y).map D.bl) (eXf 8 "text" ["text", "why"]) (eVar 9)) (eIs Tb (.ty "tuple") (eXf 8 "text" ["text", "why"])))))
    (sRet [] (eC (.bl false))))))))))))
def m__law_text_refused : List D → M D := runB 3 10 s__law_text_refused
theorem ok__law_text_refused (C : Facts P w K mg base) : FnD P w K mg base 7 "_law_text_refused" m__law_text_refused := by
  obtain ⟨f, fd, hg, F⟩ := C.f__law_text_refused
  exact ⟨f, fd, ["box", "low", "high"], hg, F.kp, fn_mk (N := ["box", "low", "high", "first", "second", "wrong", "given", "told", "e", "pair"]) (s := s__law_text_refused) F sc__law_text_refused (fun cdv A outer s0 H E hr =>
    have sc := sc__law_text_refused
    (dss_cons (ds_par (i := 3) (j := 4) (B := []) rfl sc.nd rfl rfl (by decide) rfl rfl (da_cons (de_call (ok__law_text C) tk0 (hr.mono (by decide : 1 ≤ 6)) rfl (da_cons (de_var 1) da_nil)) (da_cons (de_call (ok__law_text C) tk0 (hr.mono (by decide : 1 ≤ 6)) rfl (da_cons (de_var 2) da_nil)) da_nil)))
    (dss_cons (ds_set (i := 5) (B := []) sc.nd rfl (by first | exact Or.inl rfl | exact Or.inr rfl) (de_lst (da_cons (de_bin op_addD (de_bin op_addD (de_bin op_addD (de_bin op_addD de_str (de_var 4)) de_str) (de_var 3)) de_str) (da_cons (de_bin op_addD (de_bin op_addD (de_bin op_addD (de_bin op_addD de_str (de_var 3)) de_str) (de_var 3)) de_str) (da_cons (de_bin op_addD (de_bin op_addD (de_bin op_addD (de_bin op_addD de_str (de_var 3)) de_str) (de_var 4)) de_str) da_nil)))))
    (dss_cons (ds_set (i := 5) (B := []) sc.nd rfl (by first | exact Or.inl rfl | exact Or.inr rfl) (de_dn (dn_cat (de_var 5) (de_lst (da_cons (de_bin op_addD (de_bin op_addD (de_bin op_addD (de_bin op_addD de_str (de_var 3)) de_str) (de_var 4)) de_str) (da_cons (de_bin op_addD (de_bin op_addD (de_bin op_addD (de_bin op_addD de_str (de_var 3)) de_str) (de_var 4)) de_str) (da_cons (de_bin op_addD (de_bin op_addD de_str (de_var 3)) de_str) (da_cons (de_bin op_addD (de_bin op_addD de_str (de_var 4)) de_str) da_nil))))))))
    (dss_cons (ds_set (i := 5) (B := []) sc.nd rfl (by first | exact Or.inl rfl | exact Or.inr rfl) (de_dn (dn_cat (de_var 5) (de_lst (da_cons (de_bin op_addD (de_bin op_addD (de_bin op_addD (de_bin op_addD de_str (de_ct cr_strO1 rfl C.g_str (da_cons (de_bin op_mulD de_int (de_ix (de_var 1) de_int)) da_nil))) de_str) (de_ct cr_strO1 rfl C.g_str (da_cons (de_bin op_mulD de_int (de_ix (de_var 1) de_int)) da_nil))) de_str) (da_cons (de_bin op_addD (de_bin op_addD (de_bin op_addD (de_bin op_addD de_str (de_var 3)) de_str) (de_var 4)) de_str) (da_cons de_non (da_cons de_int (da_cons (de_tup (da_cons (de_var 1) (da_cons (de_var 2) da_nil))) (da_cons de_bl da_nil))))))))))
    (dss_cons (ds_parN (i := 6) (j := 7) (B := []) rfl sc.nd rfl rfl (by decide) rfl rfl (de_call (ok__law_of C) tk0 (hr.mono (by decide : 2 ≤ 6)) rfl (da_cons (de_var 0) (da_cons (de_var 5) da_nil))))
    (dss_cons (ds_try (i := 8) (c := "BadStretch") (cs := ["BadNumber"]) rfl rfl sc.nd rfl rfl C.xc_BadStretch rfl tk0 (fun W' pn xe tk' hp' =>
     (dss_one (ds_expr (B := []) (de_make (mk_Stretch C) tk' (hr.mono (by decide : 5 ≤ 6)) rfl (da_cons (de_var 6) da_nil))))) (fun C1 hC a1 oe dd pn hz hfl =>
     (dss_one (ds_app (i := 7) (B := []) rfl (by first | exact Or.inl rfl | exact Or.inr (Or.inl rfl) | exact Or.inr (Or.inr rfl)) (de_xf (i := 8) (c := "BadStretch") (names := ["text", "why"]) C.x_BadStretch hC hz hfl rfl)))))
    (dss_cons (ds_if (B := [7]) (dt_w (dw_or (dt_cmp (op_neDD hr.units) (de_var 7) (de_lst (da_cons (de_var 6) da_nil)) rfl) (dw_or1 (dt_cmp (op_neDD hr.units) (de_cmp op_isD (de_var 6) de_bl rfl) (de_cmp op_isD (de_ix (de_var 7) de_int) de_bl rfl) rfl))))
     (dss_one (ds_ret (B := []) de_bl))
     dss_nil)
    (dss_cons (ds_set (i := 9) (B := []) sc.nd rfl (by first | exact Or.inl rfl | exact Or.inr rfl) (de_call (ok__law_of C) tk0 (hr.mono (by decide : 2 ≤ 6)) rfl (da_cons (de_var 0) (da_cons (de_lst (da_cons (de_tup (da_cons (de_var 2) (da_cons (de_var 1) da_nil))) (da_cons (de_tup (da_cons (de_var 1) (da_cons (de_var 1) da_nil))) (da_cons (de_tup (da_cons (de_var 1) (da_cons de_str da_nil))) (da_cons (de_tup (da_cons de_non (da_cons de_bl da_nil))) (da_cons (de_tup (da_cons (de_lst (da_cons de_int (da_cons de_int da_nil))) (da_cons (de_var 2) da_nil))) (da_cons (de_tup (da_cons (de_tup (da_cons de_int (da_cons de_int da_nil))) (da_cons (de_var 2) da_nil))) da_nil))))))) da_nil))))
    (dss_cons (ds_try (i := 8) (c := "BadStretch") (cs := ["BadNumber"]) rfl rfl sc.nd rfl rfl C.xc_BadStretch rfl tk0 (fun W' pn xe tk' hp' =>
     (dss_one (ds_expr (B := []) (de_call (ok_stretch_of C) tk' (hr.mono (by decide : 6 ≤ 6)) rfl (da_cons (de_ix (de_var 9) de_int) (da_cons (de_ix (de_var 9) de_int) da_nil)))))) (fun C1 hC a1 oe dd pn hz hfl =>
     (dss_one (ds_ret (B := []) (de_and (de_cmp (op_eqDD hr.units) (de_xf (i := 8) (c := "BadStretch") (names := ["text", "why"]) C.x_BadStretch hC hz hfl rfl) (de_var 9) rfl) (de_one (de_is C.cls rfl C.g_isinstance (de_xf (i := 8) (c := "BadStretch") (names := ["text", "why"]) C.x_BadStretch hC hz hfl rfl) (pkd_ty rfl C.g_tuple))))))))
    (dss_one (ds_ret (B := []) de_bl)))))))))))), F.bindsN fun _ _ _ _ _ _ us hl => match us, hl with | [_, _, _], _ => rfl⟩
theorem sc__law_value_refused : FnScope ["box", "stretch", "given", "e", "told"] ["box", "stretch"] (defScope (top 49)) := ⟨rfl, rfl, rfl, by decide +kernel, rfl, by decide +kernel, by decide +kernel⟩
def s__law_value_refused : SM :=
    (sSeq (sAsg [] (eCall m__law_of (aCons (eVar 0) (aCons (eLst (aCons (eC .non) (aCons (eC (.str "0")) (aCons (eC (.bl false)) (aCons (eTup (aCons (eC (.int 0)) (aCons (eC (.int 0)) aNil))) (aCons (eTup (aCons (eC (.int 1)) (aCons (eUn negD (eC (.int 2))) aNil))) (aCons (eLst (aCons (eC (.int 0)) (aCons (eC (.int 1)) aNil))) (aCons (eTup (aCons (eC (.int 1)) (aCons (eC (.int 2)) (aCons (eC (.int 3)) aNil)))) (aCons (eTup (aCons (eC (.bl true)) (aCons (eC (.int 2)) aNil))) (aCons (eVar 1) aNil)))))))))) aNil))) (tgN 2))
    (sSeq (sTry 3 "BadNumber" ["BadStretch"]
     (sAsg [] (eBinM (inO "Stretch" m_Stretch___contains__) (eVar 2) (eVar 1)) (tgN 4))
     (sRet [] (eAnd (eBinM (eqO Tb "Stretch" m_Stretch___eq__) (eXf 3 "text" ["text", "why"]) (eVar 2)) (eBin (fun x y => (eqD x y).map D.bl) (eBin (fun x y => (isND x y).map D.bl) (eVar 2) (eC (.bl false))) (eBin (fun x y => (isND x y).map D.bl) (eXf 3 "text" ["text", "why"]) (eC (.bl false)))))))
    (sRet [] (eBin (fun x y => (isND x y).map D.bl) (eVar 4) (eC .non)))))
def m__law_value_refused : List D → M D := runB 2 5 s__law_value_refused
theorem ok__law_value_refused (C : Facts P w K mg base) : FnD P w K mg base 5 "_law_value_refused" m__law_value_refused := by
  obtain ⟨f, fd, hg, F⟩ := C.f__law_value_refused
  exact ⟨f, fd, ["box", "stretch"], hg, F.kp, fn_mk (N := ["box", "stretch", "given", "e", "told"]) (s := s__law_value_refused) F sc__law_value_refused (fun cdv A outer s0 H E hr =>
    have sc := sc__law_value_refused
    (dss_cons (ds_set (i := 2) (B := []) sc.nd rfl (by first | exact Or.inl rfl | exact Or.inr rfl) (de_call (ok__law_of C) tk0 (hr.mono (by decide : 2 ≤ 4)) rfl (da_cons (de_var 0) (da_cons (de_lst (da_cons de_non (da_cons de_str (da_cons de_bl (da_cons (de_tup (da_cons de_int (da_cons de_int da_nil))) (da_cons (de_tup (da_cons de_int (da_cons (de_un un_negD de_int) da_nil))) (da_cons (de_lst (da_cons de_int (da_cons de_int da_nil))) (da_cons (de_tup (da_cons de_int (da_cons de_int (da_cons de_int da_nil)))) (da_cons (de_tup (da_cons de_bl (da_cons de_int da_nil))) (da_cons (de_var 1) da_nil)))))))))) da_nil))))
    (dss_cons (ds_try (i := 3) (c := "BadNumber") (cs := ["BadStretch"]) rfl rfl sc.nd rfl rfl C.xc_BadNumber rfl tk0 (fun W' pn xe tk' hp' =>
     (dss_one (ds_set (i := 4) (B := []) sc.nd rfl (by first | exact Or.inl rfl | exact Or.inr rfl) (de_cmpM (op_inO (ok_Stretch___contains__ C) tk' (hr.mono (by decide : 4 ≤ 4))) (de_var 2) (de_var 1))))) (fun C1 hC a1 oe dd pn hz hfl =>
     (dss_one (ds_ret (B := []) (de_and (de_cmpM (op_eqO C.cls C.nf_Stretch (eq_hot (okH_Stretch___eq__ C) (roomH hr (by decide : 1 ≤ 4)) (hotS hz hfl)) hr.units) (de_xf (i := 3) (c := "BadNumber") (names := ["text", "why"]) C.x_BadNumber hC hz hfl rfl) (de_var 2)) (de_one (de_cmp (op_eqDD hr.units) (de_cmp op_isD (de_var 2) de_bl rfl) (de_cmp op_isD (de_xf (i := 3) (c := "BadNumber") (names := ["text", "why"]) C.x_BadNumber hC hz hfl rfl) de_bl rfl) rfl)))))))
    (dss_one (ds_ret (B := []) (de_cmp op_isD (de_var 4) de_non rfl)))))), F.bindsN fun _ _ _ _ _ _ us hl => match us, hl with | [_, _], _ => rfl⟩
theorem sc_law : FnScope ["script", "box", "numbers", "ends", "k", "made", "pair", "factor", "loose", "end", "asked", "a", "b", "stretch", "x", "j", "two"] ["script"] (defScope (top 50)) := ⟨rfl, rfl, rfl, by decide +kernel, rfl, by decide +kernel, by decide +kernel⟩
def s_law : SM :=
    (sSeq (sAsg [] (eCall m__law_numbers (aCons (eVar 1) aNil)) (tgN 2))
    (sSeq (sNew 3 [] (eLC (iRng1 (aCons (eCall m__law_from (aCons (eVar 1) (aCons (eC (.int 3)) (aCons (eC (.int 5)) aNil)))) aNil)) [4] (tgN 4) cYes (eCall m__law_ends (aCons (eVar 1) (aCons (eVar 2) aNil)))))
    (sSeq (sNew 5 [] (lsz aNil))
    (sSeq (sFor [3] (iVal (eVar 3)) (tgN 6)
     (sIf [] (cBin eqD (eCall m__law_draw (aCons (eVar 1) (aCons (eC (.int 2)) aNil))) (eC (.int 0)))
      (sApp 5 [] (eCall m_Stretch_init (aCons (eCall m__law_written (aCons (eVar 6) aNil)) aNil)))
      (sSeq (sAsg [] (eCall m__law_from (aCons (eVar 1) (aCons (eC (.int 1)) (aCons (eC (.int 3)) aNil)))) (tgN 7))
      (sSeq (sNew 8 [] (eLC (iVal (eVar 6)) [9] (tgN 9) cYes (eIf (cBin isND (eVar 9) (eC .non)) (eC .non) (eTup (aCons (eBin mulD (eIx (eVar 9) (eC (.int 0))) (eVar 7)) (aCons (eBin mulD (eIx (eVar 9) (eC (.int 1))) (eVar 7)) aNil))))))
      (sApp 5 [8] (eCall m_stretch_of (aCons (eIx (eVar 8) (eC (.int 0))) (aCons (eIx (eVar 8) (eC (.int 1))) aNil))))))))
    (sSeq (sAsg [] (eL (lCat (eVar 2) (eL (eLC (iZip2 (aCons (eVar 2) (aCons (eL (lCat (eSl (eVar 2) (oSo (eC (.int 1))) oNo) (eLst (aCons (eTup (aCons (eC (.int 0)) (aCons (eC (.int 1)) aNil))) aNil)))) aNil))) [11, 12] (tgT 2 (tgsCons (tgN 11) (tgsCons (tgN 12) tgsNil))) cYes (eCall m__law_low (aCons (eBin addD (eBin mulD (eIx (eVar 11) (eC (.int 0))) (eIx (eVar 12) (eC (.int 1)))) (eBin mulD (eIx (eVar 12) (eC (.int 0))) (eIx (eVar 11) (eC (.int 1))))) (aCons (eBin mulD (eBin mulD (eC (.int 2)) (eIx (eVar 11) (eC (.int 1)))) (eIx (eVar 12) (eC (.int 1)))) aNil))))))) (tgN 10))
    (sSeq (sFor [3, 5] (iZip2 (aCons (eVar 5) (aCons (eVar 3) aNil))) (tgT 2 (tgsCons (tgN 13) (tgsCons (tgN 6) tgsNil)))
     (sSeq (sIf [] (cOr (cNot (cVal (eCall m__law_right (aCons (eVar 13) (aCons (eVar 6) aNil))))) (cOr (cNot (cBinM (eqO Tb "Stretch" m_Stretch___eq__) (eCall m_Stretch_init (aCons (eCall m__law_written (aCons (eVar 6) aNil)) aNil)) (eVar 13))) (cBin isNotD (eBinM (eqO Tb "Stretch" m_Stretch___eq__) (eVar 13) (eCall m__law_written (aCons (eVar 6) aNil))) (eC (.bl false)))))
      (sRet [] (eC (.bl false)))
      sNil)
     (sFor [] (iVal (eL (lCat (eVar 10) (eLst (aCons (eTup (aCons (eBin mulD (eC (.int 3)) (eIx (eIx (eVar 2) (eC (.int 0))) (eC (.int 0)))) (aCons (eBin mulD (eC (.int 3)) (eIx (eIx (eVar 2) (eC (.int 0))) (eC (.int 1)))) aNil))) (aCons (eC (.int 0)) aNil)))))) (tgN 14)
      (sIf [] (cNot (cVal (eCall m__law_truth (aCons (eBinM (inO "Stretch" m_Stretch___contains__) (eVar 14) (eVar 13)) (aCons (eCall m__law_holds (aCons (eVar 6) (aCons (eIf (cVal (eIs Tb (.ty "tuple") (eVar 14))) (eVar 14) (eTup (aCons (eVar 14) (aCons (eC (.int 1)) aNil)))) aNil))) aNil)))))
       (sRet [] (eC (.bl false)))
       sNil))))
    (sSeq (sFor [5] (iRng1 (aCons (eCB lenO (aCons (eVar 5) aNil)) aNil)) (tgN 4)
     (sFor [5] (iRng1 (aCons (eCB lenO (aCons (eVar 5) aNil)) aNil)) (tgN 15)
      (sIf [3, 5] (cNot (cVal (eCall m__law_two_right (aCons (eIx (eVar 5) (eVar 4)) (aCons (eIx (eVar 5) (eVar 15)) (aCons (eIx (eVar 3) (eVar 4)) (aCons (eIx (eVar 3) (eVar 15)) aNil)))))))
       (sRet [] (eC (.bl false)))
       sNil)))
    (sSeq (sAsg [] (eLst (aCons (eIx (eVar 2) (eC (.int 0))) (aCons (eCall m__law_plus (aCons (eIx (eVar 2) (eC (.int 0))) (aCons (eTup (aCons (eC (.int 1)) (aCons (eC (.int 1)) aNil))) aNil))) aNil))) (tgN 16))
    (sSeq (sIf [3, 5] (cOr (cNot (cVal (eCall m__law_three_right (aCons (eVar 5) (aCons (eVar 3) aNil))))) (cNot (cVal (eCall m__law_text_refused (aCons (eVar 1) (aCons (eIx (eVar 16) (eC (.int 0))) (aCons (eIx (eVar 16) (eC (.int 1))) aNil)))))))
     (sRet [] (eC (.bl false)))
     sNil)
    (sRet [5] (eCall m__law_value_refused (aCons (eVar 1) (aCons (eIx (eVar 5) (eC (.int 0))) aNil)))))))))))))
def m_law : List Int → Option Bool := lawM 17 1 (eCall m__law_box (aCons (eVar 0) aNil)) s_law
theorem ok_law (C : Facts P w K mg base) {f : Addr} {fd : FuncData} (F : FunD K "law" "law" (defArgs (top 50)) (defBody (top 50)) (defScope (top 50)) [] [] f fd) : FnOk P w K mg base (L2N.CX P w) 9 f fd ["script"] (spLaw K m_law) :=
  law_mk (N := ["script", "box", "numbers", "ends", "k", "made", "pair", "factor", "loose", "end", "asked", "a", "b", "stretch", "x", "j", "two"]) F sc_law (fun cdv A outer s0 H E hr =>
    have sc := sc_law
    pss_law (i := 1) (s := s_law) sc.nd rfl (by decide) (by first | exact Or.inl rfl | exact Or.inr rfl) (de_call (ok__law_box C) tk0 (hr.mono (by decide : 1 ≤ 8)) rfl (da_cons (de_var 0) da_nil)) (
    (dss_cons (ds_set (i := 2) (B := []) sc.nd rfl (by first | exact Or.inl rfl | exact Or.inr rfl) (de_call (ok__law_numbers C) tk0 (hr.mono (by decide : 4 ≤ 8)) rfl (da_cons (de_var 1) da_nil)))
    (dss_cons (ds_setLc (B := []) (own := [("k", 4)]) rfl sc.nd (i := 3) rfl rfl (di_r1 rfl C.g_range (da_cons (de_call (ok__law_from C) tk0 (hr.mono (by decide : 2 ≤ 8)) rfl (da_cons (de_var 1) (da_cons de_int (da_cons de_int da_nil)))) da_nil)) (blk_ok rfl) (fun s H C0 cl fp => (dg_name sc.nd (i := 4) rfl (by first | exact Or.inl rfl | exact Or.inr rfl))) (fun s H C0 cl fp => dts_nil) (fun s H C0 cl fp => (de_call (ok__law_ends C) tkB (hr.mono (by decide : 3 ≤ 8)) rfl (da_cons (de_var 1) (da_cons (de_var 2) da_nil)))) (L2.sw_true rfl rfl rfl rfl))
    (dss_cons (ds_new (i := 5) (B := []) sc.nd rfl (by first | exact Or.inl rfl | exact Or.inr rfl) (dn_lst da_nil))
    (dss_cons (ds_for (B := [3]) hp0 rfl (di_val (de_var 3)) (dg_name sc.nd (i := 6) rfl (by first | exact Or.inl rfl | exact Or.inr rfl))
     (dss_one (ds_if (B := []) (dt_cmp (op_eqDD hr.units) (de_call (ok__law_draw C) tk0 (hr.mono (by decide : 1 ≤ 8)) rfl (da_cons (de_var 1) (da_cons de_int da_nil))) de_int rfl)
      (dss_one (ds_app (i := 5) (B := []) rfl (by first | exact Or.inl rfl | exact Or.inr (Or.inl rfl) | exact Or.inr (Or.inr rfl)) (de_make (mk_Stretch C) tk0 (hr.mono (by decide : 5 ≤ 8)) rfl (da_cons (de_call (ok__law_written C) tk0 (hr.mono (by decide : 2 ≤ 8)) rfl (da_cons (de_var 6) da_nil)) da_nil))))
      (dss_cons (ds_set (i := 7) (B := []) sc.nd rfl (by first | exact Or.inl rfl | exact Or.inr rfl) (de_call (ok__law_from C) tk0 (hr.mono (by decide : 2 ≤ 8)) rfl (da_cons (de_var 1) (da_cons de_int (da_cons de_int da_nil)))))
      (dss_cons (ds_setLc (B := []) (own := [("end", 9)]) rfl sc.nd (i := 8) rfl rfl (di_val (de_var 6)) (blk_ok rfl) (fun s H C0 cl fp => (dg_name sc.nd (i := 9) rfl (by first | exact Or.inl rfl | exact Or.inr rfl))) (fun s H C0 cl fp => dts_nil) (fun s H C0 cl fp => (de_if (dt_cmp op_isD (de_var 9) de_non rfl) de_non (de_tup (da_cons (de_bin op_mulD (de_ix (de_var 9) de_int) (de_var 7)) (da_cons (de_bin op_mulD (de_ix (de_var 9) de_int) (de_var 7)) da_nil))))) (L2.sw_true rfl rfl rfl rfl))
      (dss_one (ds_app (i := 5) (B := [8]) rfl (by first | exact Or.inl rfl | exact Or.inr (Or.inl rfl) | exact Or.inr (Or.inr rfl)) (de_call (ok_stretch_of C) tk0 (hr.mono (by decide : 6 ≤ 8)) rfl (da_cons (de_ix (de_var 8) de_int) (da_cons (de_ix (de_var 8) de_int) da_nil))))))))))
    (dss_cons (ds_set (i := 10) (B := []) sc.nd rfl (by first | exact Or.inl rfl | exact Or.inr rfl) (de_dn (dn_cat (de_var 2) (de_dn (dn_lc (own := [("a", 11), ("b", 12)]) rfl sc.nd (di_zip rfl C.g_zip (da_cons (de_var 2) (da_cons (de_dn (dn_cat (de_sl (de_var 2) (do_some de_int) do_none) (de_lst (da_cons (de_tup (da_cons de_int (da_cons de_int da_nil))) da_nil)))) da_nil))) (blk_ok rfl) (fun s H C0 cl fp => (dg_tup rfl (dgs_cons (dg_name sc.nd (i := 11) rfl (by first | exact Or.inl rfl | exact Or.inr rfl)) (dgs_cons (dg_name sc.nd (i := 12) rfl (by first | exact Or.inl rfl | exact Or.inr rfl)) dgs_nil)))) (fun s H C0 cl fp => dts_nil) (fun s H C0 cl fp => (de_call (ok__law_low C) tkB (hr.mono (by decide : 2 ≤ 8)) rfl (da_cons (de_bin op_addD (de_bin op_mulD (de_ix (de_var 11) de_int) (de_ix (de_var 12) de_int)) (de_bin op_mulD (de_ix (de_var 12) de_int) (de_ix (de_var 11) de_int))) (da_cons (de_bin op_mulD (de_bin op_mulD de_int (de_ix (de_var 11) de_int)) (de_ix (de_var 12) de_int)) da_nil)))))))))
    (dss_cons (ds_for (B := [3, 5]) hp0 rfl (di_zip rfl C.g_zip (da_cons (de_var 5) (da_cons (de_var 3) da_nil))) (dg_tup rfl (dgs_cons (dg_name sc.nd (i := 13) rfl (by first | exact Or.inl rfl | exact Or.inr rfl)) (dgs_cons (dg_name sc.nd (i := 6) rfl (by first | exact Or.inl rfl | exact Or.inr rfl)) dgs_nil)))
     (dss_cons (ds_if (B := []) (dt_w (dw_or (dt_not (dt_val (de_call (ok__law_right C) tk0 (hr.mono (by decide : 3 ≤ 8)) rfl (da_cons (de_var 13) (da_cons (de_var 6) da_nil))))) (dw_or (dt_not (dt_cmpM (op_eqO C.cls C.nf_Stretch (eq_cool (ok_Stretch___eq__ C) (hr.mono (by decide : 1 ≤ 8))) hr.units) (de_make (mk_Stretch C) tk0 (hr.mono (by decide : 5 ≤ 8)) rfl (da_cons (de_call (ok__law_written C) tk0 (hr.mono (by decide : 2 ≤ 8)) rfl (da_cons (de_var 6) da_nil)) da_nil)) (de_var 13))) (dw_or1 (dt_cmp op_isNotD (de_cmpM (op_eqO C.cls C.nf_Stretch (eq_cool (ok_Stretch___eq__ C) (hr.mono (by decide : 1 ≤ 8))) hr.units) (de_var 13) (de_call (ok__law_written C) tk0 (hr.mono (by decide : 2 ≤ 8)) rfl (da_cons (de_var 6) da_nil))) de_bl rfl)))))
      (dss_one (ds_ret (B := []) de_bl))
      dss_nil)
     (dss_one (ds_for (B := []) hp0 rfl (di_val (de_dn (dn_cat (de_var 10) (de_lst (da_cons (de_tup (da_cons (de_bin op_mulD de_int (de_ix (de_ix (de_var 2) de_int) de_int)) (da_cons (de_bin op_mulD de_int (de_ix (de_ix (de_var 2) de_int) de_int)) da_nil))) (da_cons de_int da_nil)))))) (dg_name sc.nd (i := 14) rfl (by first | exact Or.inl rfl | exact Or.inr rfl))
      (dss_one (ds_if (B := []) (dt_not (dt_val (de_call (ok__law_truth C) tk0 (hr.mono (by decide : 1 ≤ 8)) rfl (da_cons (de_cmpM (op_inO (ok_Stretch___contains__ C) tk0 (hr.mono (by decide : 4 ≤ 8))) (de_var 14) (de_var 13)) (da_cons (de_call (ok__law_holds C) tk0 (hr.mono (by decide : 3 ≤ 8)) rfl (da_cons (de_var 6) (da_cons (de_if (dt_val (de_is C.cls rfl C.g_isinstance (de_var 14) (pkd_ty rfl C.g_tuple))) (de_var 14) (de_tup (da_cons (de_var 14) (da_cons de_int da_nil)))) da_nil))) da_nil)))))
       (dss_one (ds_ret (B := []) de_bl))
       dss_nil))))))
    (dss_cons (ds_for (B := [5]) hp0 rfl (di_r1 rfl C.g_range (da_cons (de_cb cr_lenO rfl C.g_len (da_cons (de_var 5) da_nil)) da_nil)) (dg_name sc.nd (i := 4) rfl (by first | exact Or.inl rfl | exact Or.inr rfl))
     (dss_one (ds_for (B := [5]) hp0 rfl (di_r1 rfl C.g_range (da_cons (de_cb cr_lenO rfl C.g_len (da_cons (de_var 5) da_nil)) da_nil)) (dg_name sc.nd (i := 15) rfl (by first | exact Or.inl rfl | exact Or.inr rfl))
      (dss_one (ds_if (B := [3, 5]) (dt_not (dt_val (de_call (ok__law_two_right C) tk0 (hr.mono (by decide : 8 ≤ 8)) rfl (da_cons (de_ix (de_var 5) (de_var 4)) (da_cons (de_ix (de_var 5) (de_var 15)) (da_cons (de_ix (de_var 3) (de_var 4)) (da_cons (de_ix (de_var 3) (de_var 15)) da_nil)))))))
       (dss_one (ds_ret (B := []) de_bl))
       dss_nil)))))
    (dss_cons (ds_set (i := 16) (B := []) sc.nd rfl (by first | exact Or.inl rfl | exact Or.inr rfl) (de_lst (da_cons (de_ix (de_var 2) de_int) (da_cons (de_call (ok__law_plus C) tk0 (hr.mono (by decide : 3 ≤ 8)) rfl (da_cons (de_ix (de_var 2) de_int) (da_cons (de_tup (da_cons de_int (da_cons de_int da_nil))) da_nil))) da_nil))))
    (dss_cons (ds_if (B := [3, 5]) (dt_w (dw_or (dt_not (dt_val (de_call (ok__law_three_right C) tk0 (hr.mono (by decide : 8 ≤ 8)) rfl (da_cons (de_var 5) (da_cons (de_var 3) da_nil))))) (dw_or1 (dt_not (dt_val (de_call (ok__law_text_refused C) tk0 (hr.mono (by decide : 7 ≤ 8)) rfl (da_cons (de_var 1) (da_cons (de_ix (de_var 16) de_int) (da_cons (de_ix (de_var 16) de_int) da_nil)))))))))
     (dss_one (ds_ret (B := []) de_bl))
     dss_nil)
    (dss_one (ds_ret (B := [5]) (de_call (ok__law_value_refused C) tk0 (hr.mono (by decide : 5 ≤ 8)) rfl (da_cons (de_var 1) (da_cons (de_ix (de_var 5) de_int) da_nil))))))))))))))))
end
end K06
end

section
set_option Elab.async false
set_option linter.all false
set_option maxRecDepth 100000
set_option maxHeartbeats 2000000
set_option autoImplicit false
/-! K06L: what the mirrors of k06 answer. -/
namespace K06
open PySem PySem.Spec PyProof.Rows L2 DL
/-! ### kinds -/
@[simp] theorem isi_int (n : Int) : m_is_integer [.int n] = pure (.bl true) := runB_pure rfl fun _ => rfl
@[simp] theorem isi_non : m_is_integer [.non] = pure (.bl false) := runB_pure rfl fun _ => rfl
@[simp] theorem isi_bl (b : Bool) : m_is_integer [.bl b] = pure (.bl false) := runB_pure rfl fun _ => rfl
@[simp] theorem isi_str (b : Str) : m_is_integer [.str b] = pure (.bl false) := runB_pure rfl fun _ => rfl
@[simp] theorem isi_tup (b : List D) : m_is_integer [.tup b] = pure (.bl false) := runB_pure rfl fun _ => rfl
@[simp] theorem isi_lst (b : List D) : m_is_integer [.lst b] = pure (.bl false) := runB_pure rfl fun _ => rfl
@[simp] theorem isi_obj (a : List Str) (b : List D) : m_is_integer [.obj "Stretch" a b] = pure (.bl false) := runB_pure rfl fun _ => rfl
theorem isf_int (n : Int) : m_is_fraction [.int n] = pure (.bl true) := runB_pure rfl fun _ => rfl
theorem isf_non : m_is_fraction [.non] = pure (.bl false) := runB_pure rfl fun _ => rfl
theorem isf_bl (b : Bool) : m_is_fraction [.bl b] = pure (.bl false) := runB_pure rfl fun _ => rfl
theorem isf_str (b : Str) : m_is_fraction [.str b] = pure (.bl false) := runB_pure rfl fun _ => rfl
theorem isf_lst (b : List D) : m_is_fraction [.lst b] = pure (.bl false) := runB_pure rfl fun _ => rfl
theorem isf_obj (a : List Str) (b : List D) : m_is_fraction [.obj "Stretch" a b] = pure (.bl false) := runB_pure rfl fun _ => rfl
theorem isf_pr (q : Q2) : m_is_fraction [pr q] = pure (.bl (decide (1 ≤ q.2))) := runB_pure rfl fun _ => rfl
theorem isf_tb (b : Bool) (n : Int) : m_is_fraction [.tup [.bl b, .int n]] = pure (.bl false) := runB_pure rfl fun _ => rfl
theorem isf_t3 (a b c : D) : m_is_fraction [.tup [a, b, c]] = pure (.bl false) := runB_pure rfl fun _ => rfl
/-! ### fractions -/
theorem sign_of_ok (n : Int) : m_sign_of [.int n] = pure (.int n.sign) := runB_pure rfl fun ω => by
  unfold s_sign_of
  by_cases h : n < 0
  · simp [startS, bodyR, h, Int.sign_eq_neg_one_of_neg]
  · by_cases h2 : 0 < n
    · simp [startS, bodyR, h, h2, Int.sign_eq_one_of_pos]
    · have : n = 0 := by omega
      subst this
      simp [startS, bodyR]
theorem law_sign_ok (n : Int) : m__law_sign [.int n] = pure (.int n.sign) := runB_pure rfl fun ω => by
  unfold s__law_sign
  by_cases h : n < 0
  · have h2 : ¬ 0 < n := by omega
    simp [startS, bodyR, h, h2, Int.sign_eq_neg_one_of_neg, intO]
  · by_cases h2 : 0 < n
    · simp [startS, bodyR, h, h2, Int.sign_eq_one_of_pos, intO]
    · have : n = 0 := by omega
      subst this
      simp [startS, bodyR, intO]
@[simp] theorem ix_pr0 (q : Q2) : ixM (pr q) (.int 0) = pure (.int q.1) := rfl
@[simp] theorem ix_pr1 (q : Q2) : ixM (pr q) (.int 1) = pure (.int q.2) := rfl
theorem order_of_ok {k l : Nat} {a b : Q2} (h1 : Sm k a.1) (h2 : Sm k a.2) (h3 : Sm l b.1) (h4 : Sm l b.2) (hk : k + l ≤ 134217728) : m_order_of [pr a, pr b] = pure (.int (ordQ a b)) := runB_pure rfl fun ω => by
  unfold s_order_of
  have e1 := mul_ok h1 h4
  have e2 := mul_ok h3 h2
  simp [startS, bodyR, e1, e2, sign_of_ok, ordQ]
theorem law_order_ok {k l : Nat} {a b : Q2} (h1 : Sm k a.1) (h2 : Sm k a.2) (h3 : Sm l b.1) (h4 : Sm l b.2) (hk : k + l ≤ 134217728) : m__law_order [pr a, pr b] = pure (.int (ordQ a b)) := runB_pure rfl fun ω => by
  unfold s__law_order
  have e1 := mul_ok h1 h4
  have e2 := mul_ok h3 h2
  simp [startS, bodyR, e1, e2, law_sign_ok, ordQ]
theorem gcd_bd {a b : Int} (h : b ≠ 0) (hb : Sm 9000 b) : sgn b (Int.gcd a b) ≠ 0 ∧ Sm 9000 (sgn b (Int.gcd a b)) := by
  have g0 : 0 < Int.gcd a b := Int.gcd_pos_of_ne_zero_right a h
  have gl : Int.gcd a b ≤ b.natAbs := Nat.le_of_dvd (by omega) (Nat.gcd_dvd_right _ _)
  unfold sgn
  refine ⟨by split <;> omega, hb.le ?_⟩
  split <;> omega
theorem lowest_ok {a b : Int} (h : b ≠ 0) (hb : Sm 9000 b) : m_lowest [.int a, .int b] = pure (pr (lowQ a b)) := runB_pure rfl fun ω => by
  unfold s_lowest
  obtain ⟨h1, h2⟩ := gcd_bd (a := a) h hb
  have e1 := fdiv_ok (i := a) h1 h2
  have e2 := fdiv_ok (i := b) h1 h2
  have eg : gcdO [.int a, .int b] = some (.int (Int.gcd a b : Nat)) := rfl
  by_cases z : b < 0
  · have es : sgn b (Int.gcd a b) = -(Int.gcd a b : Int) := by unfold sgn; rw [if_pos z]
    rw [es] at e1 e2
    simp [startS, bodyR, eg, z, e1, e2, pr, lowQ, es]
  · have es : sgn b (Int.gcd a b) = (Int.gcd a b : Int) := by unfold sgn; rw [if_neg z]
    rw [es] at e1 e2
    simp [startS, bodyR, eg, z, e1, e2, pr, lowQ, es]
theorem pair_of_int (n : Int) : m_pair_of [.int n] = pure (pr (n, 1)) := runB_pure rfl fun _ => rfl
theorem pair_of_pr {q : Q2} (h : q.2 ≠ 0) (hb : Sm 9000 q.2) : m_pair_of [pr q] = pure (pr (lowQ q.1 q.2)) := runB_pure rfl fun ω => by
  unfold s_pair_of
  have e : isK Tb (.ty "tuple") (pr q) = some true := rfl
  simp [startS, bodyR, e, lowest_ok h hb]
/-! ### Euclid -/
theorem gcd_loop : ∀ (m a b : Nat) (ω : Om), b ≤ m → sWhile [] (cBin gtD (eVar 1) (eC (.int 0))) (sPar [] (aCons (eVar 1) (aCons (eBin modD (eCB intO (aCons (eVar 0) aNil)) (eVar 1)) aNil)) (tg2 0 1)) [.val (.int a), .val (.int b)] ω = .nx [.val (.int (Nat.gcd a b : Nat)), .val (.int 0)] ω := by
  intro m
  induction m with
  | zero =>
    intro a b ω h
    have : b = 0 := by omega
    subst this
    rw [sWhile_turn]
    simp
  | succ m ih =>
    intro a b ω h
    by_cases z : b = 0
    · subst z
      rw [sWhile_turn]
      simp
    · rw [sWhile_turn]
      have hb : (b : Int) ≠ 0 := by omega
      have e := mod_ok (i := (a : Int)) hb
      have ei : intO [.int (a : Int)] = some (.int a) := rfl
      have em : (a : Int).fmod b = ((a % b : Nat) : Int) := by
        rw [Int.fmod_eq_emod_of_nonneg _ (by omega)]; rfl
      have hp : (0 : Int) < b := by omega
      rw [em] at e
      have := ih b (a % b) ω (by have := Nat.mod_lt a (Nat.pos_of_ne_zero z); omega)
      have hp2 : 0 < b := Nat.pos_of_ne_zero z
      simp [hp, hp2, ei, e]
      have hc : (a : Int) % (b : Int) = ((a % b : Nat) : Int) := rfl
      rw [hc, this, Nat.gcd_comm a b, Nat.gcd_rec b a, Nat.gcd_comm]
theorem law_gcd_ok (a b : Int) : m__law_gcd [.int a, .int b] = pure (.int (Int.gcd a b : Nat)) := runB_pure rfl fun ω => by
  unfold s__law_gcd
  have e1 : absO [.int a] = some (.int (a.natAbs : Nat)) := by
    show some (D.int (if a < 0 then -a else a)) = _
    congr 2
    split <;> omega
  have e2 : absO [.int b] = some (.int (b.natAbs : Nat)) := by
    show some (D.int (if b < 0 then -b else b)) = _
    congr 2
    split <;> omega
  have e := gcd_loop b.natAbs a.natAbs b.natAbs ω (Nat.le_refl _)
  simp [startS, bodyR, e1, e2] 
  rw [e]
  simp [bodyR, Int.gcd]
theorem law_low_ok {a b : Int} (h : b ≠ 0) (hb : Sm 9000 b) : m__law_low [.int a, .int b] = pure (pr (lowQ a b)) := runB_pure rfl fun ω => by
  unfold s__law_low
  obtain ⟨h1, h2⟩ := gcd_bd (a := a) h hb
  have e1 := fdiv_ok (i := a) h1 h2
  have e2 := fdiv_ok (i := b) h1 h2
  by_cases z : b < 0
  · have es : sgn b (Int.gcd a b) = -(Int.gcd a b : Int) := by unfold sgn; rw [if_pos z]
    rw [es] at e1 e2
    simp [startS, bodyR, law_gcd_ok, z, e1, e2, pr, lowQ, es]
  · have es : sgn b (Int.gcd a b) = (Int.gcd a b : Int) := by unfold sgn; rw [if_neg z]
    rw [es] at e1 e2
    simp [startS, bodyR, law_gcd_ok, z, e1, e2, pr, lowQ, es]
end K06
end

section
set_option Elab.async false
set_option linter.all false
set_option maxRecDepth 100000
set_option maxHeartbeats 4000000
set_option autoImplicit false
/-! K06T: the texts of k06: what is written is read again. -/
namespace K06
open PySem PySem.Spec PyProof.Rows L2 DL SX
open TL (numL tl)
open NumText (AllDigits digitsVal)
theorem c_minus : Str.ofString "-" = S [45] := S_lit
theorem c_slash : Str.ofString "/" = S [47] := S_lit
theorem c_zero : Str.ofString "0" = S [48] := S_lit
theorem c_none : Str.ofString "" = S [] := S_lit
theorem c_sp : Str.ofString " " = S [32] := S_lit
theorem c_open : Str.ofString "(" = S [40] := S_lit
theorem c_close : Str.ofString ")" = S [41] := S_lit
theorem c_opens : Str.ofString "( " = S [40, 32] := S_lit
theorem c_closes : Str.ofString " )" = S [32, 41] := S_lit
theorem integer_text_ok {n : Int} (h : Sm 1900 n) : m_integer_text [.int n] = pure (.str (S (zl n))) := runB_pure rfl fun ω => by
  unfold s_integer_text
  have e1 : bitsO (.int n) = some (.int (nb n : Nat)) := rfl
  have e2 : ((nb n : Nat) : Int) < 14000 := by have := nb_le h; omega
  simp [startS, bodyR, e1, e2, str_ok h]
/-- the digits by sixties -/
theorem sixty_loop {t d : D} {x : Int} {ds : List Nat} (hd : AllDigits ds) (hl : ds.length ≤ 6000) : ∀ (n : Nat) (lo : Nat) (v : Nat) (y : Sl) (ω : Om), lo + n * 60 = ds.length → Sm (4 * lo) v → v = digitsVal (ds.take lo) → ∃ y', 
    forS (tgN 4) (sAsg [] (eBin addD (eBin mulD (eVar 3) (eC (.int 1000000000000000000000000000000000000000000000000000000000000))) (eCB intO (aCons (eSl (eVar 1) (oSo (eVar 4)) (oSo (eBin addD (eVar 4) (eC (.int 60))))) aNil))) (tgN 3))
      (rgL lo 60 n) [.val t, .val (.str (S ds)), .val d, .val (.int v), y] ω = .nx [.val t, .val (.str (S ds)), .val d, .val (.int (digitsVal ds : Nat)), y'] ω
  | 0, lo, v, y, ω, h1, h2, h3 => by
    have : lo = ds.length := by omega
    subst this
    rw [List.take_length] at h3
    subst h3
    exact ⟨y, rfl⟩
  | n + 1, lo, v, y, ω, h1, h2, h3 => by
    have er : rgL lo 60 (n + 1) = .int lo :: rgL ((lo + 60 : Nat) : Int) 60 n := by
      unfold rgL
      rw [List.range_succ_eq_map, List.map_cons, List.map_map]
      simp only [Int.natCast_zero, Int.zero_mul, Int.add_zero, List.cons.injEq, true_and]
      refine List.map_congr_left fun i _ => ?_
      simp only [Function.comp]
      congr 1
      push_cast
      omega
    have hcut : slD (.str (S ds)) (some (lo : Int)) (some ((lo : Int) + 60)) = some (.str (S ((ds.drop lo).take 60))) := by
      rw [sl_S _ _ (by omega)]
      have e1 : HT.sIx ds.length 0 (some (lo : Int)) = lo := by rw [HT.sIx_nat]; omega
      have e2 : HT.sIx ds.length ds.length (some ((lo : Int) + 60)) = lo + 60 := by
        have : (lo : Int) + 60 = ((lo + 60 : Nat) : Int) := by push_cast; rfl
        rw [this, HT.sIx_nat]; omega
      rw [e1, e2]
      congr 4
      omega
    have hpl : ((ds.drop lo).take 60).length = 60 := by rw [List.length_take, List.length_drop]; omega
    have hpd : AllDigits ((ds.drop lo).take 60) := fun c hc => hd c (List.mem_of_mem_drop (List.mem_of_mem_take hc))
    have hint := int_digits hpd (by intro z; rw [z] at hpl; cases hpl) (by omega)
    have hmul : mulD (.int v) (.int 1000000000000000000000000000000000000000000000000000000000000) = some (.int (v * 1000000000000000000000000000000000000000000000000000000000000)) :=
      mul_ok (l := 200) h2 (by unfold Sm; decide +kernel) (by omega)
    have hval : digitsVal (ds.take (lo + 60)) = v * 10 ^ 60 + digitsVal ((ds.drop lo).take 60) := by
      rw [h3, List.take_add, dv_append, hpl]
    have hsm : Sm (4 * (lo + 60)) (digitsVal (ds.take (lo + 60)) : Nat) := by
      unfold Sm
      have := dv_lt (a := ds.take (lo + 60)) fun c hc => hd c (List.mem_of_mem_take hc)
      have e : (ds.take (lo + 60)).length = lo + 60 := by rw [List.length_take]; omega
      rw [e] at this
      rw [Int.natAbs_natCast]
      refine Nat.lt_of_lt_of_le this ?_
      rw [Nat.pow_mul]
      exact Nat.pow_le_pow_left (by decide) _
    obtain ⟨y', ih⟩ := sixty_loop hd hl (t := t) (d := d) (x := x) n (lo + 60) (digitsVal (ds.take (lo + 60))) (.val (.int lo)) ω (by omega) hsm rfl
    refine ⟨y', ?_⟩
    rw [er]
    unfold forS
    have hv2 : ((v : Int) * 1000000000000000000000000000000000000000000000000000000000000 + (digitsVal ((ds.drop lo).take 60) : Nat)) = ((digitsVal (ds.take (lo + 60)) : Nat) : Int) := by
      have e60 : ((10 ^ 60 : Nat) : Int) = 1000000000000000000000000000000000000000000000000000000000000 := by decide +kernel
      rw [hval, Int.natCast_add, Int.natCast_mul, e60]
    simp [hmul, hcut, hint]
    rw [hv2]
    exact ih
theorem size60 (n : Nat) : Builtin.Range.rangeSize ((n % 60 : Nat) : Int) n 60 = ((n / 60 : Nat) : Int) := by
  unfold Builtin.Range.rangeSize
  have := Nat.div_add_mod n 60
  simp only [show (60 : Int) > 0 by decide, if_true]
  split <;> omega
theorem rng3_eq (i j c : Int) : rngO [.int i, .int j, .int c] = if c ≠ 0 ∧ c.natAbs < 1073741824 ∧ Builtin.Range.small i j c = true ∧ 0 ≤ Builtin.Range.rangeSize i j c then some (rgL i c (Builtin.Range.rangeSize i j c).toNat) else none := rfl
theorem fits {x : Int} (h1 : 0 ≤ x) (h2 : x ≤ 100000) : Builtin.Range.rangeFitsLong x = true := by
  unfold Builtin.Range.rangeFitsLong
  rw [Bool.and_eq_true]
  exact ⟨decide_eq_true (Int.le_trans (by decide) h1), decide_eq_true (Int.lt_of_le_of_lt h2 (by decide))⟩
theorem rng60 {n : Nat} (h : n ≤ 6000) : rngO [.int ((n % 60 : Nat) : Int), .int n, .int 60] = some (rgL ((n % 60 : Nat) : Int) 60 (n / 60)) := by
  have hs : Builtin.Range.small ((n % 60 : Nat) : Int) n 60 = true := by
    unfold Builtin.Range.small
    rw [size60, fits (by omega) (by omega), fits (by omega) (by omega), fits (by omega) (by omega), fits (x := ((n / 60 : Nat) : Int)) (by omega) (by omega), if_pos (by decide), fits (by omega) (by omega)]
    simp
  rw [rng3_eq, size60, if_pos ⟨by decide, by decide, hs, by omega⟩, Int.toNat_natCast]
/-- the value of a text of digits -/
theorem from_digits {t : List Nat} {ds : List Nat} (hd : AllDigits ds) (hn : ds ≠ []) (hl : ds.length ≤ 600) (ht : t = ds ∨ t = 45 :: ds) (hz : ds.head? = some 48 → t = [48]) : m_integer_from [.str (S t)] = pure (.int (if t = ds then (digitsVal ds : Int) else -(digitsVal ds : Int))) := runB_pure rfl fun ω => by
  unfold s_integer_from
  have h45 : ds.head? ≠ some 45 := by
    cases ds with
    | nil => exact absurd rfl hn
    | cons c r => have := hd.head; simp; omega
  have e0 : startsO (S t) [.str (S [45])] = some (.bl (decide (t ≠ ds))) := by
    show some (D.bl (Txt.startswith (S t) (S [45]))) = _
    rw [starts_S]
    rcases ht with e | e
    · subst e; simp [h45]
    · subst e; simp
  have e1 : slD (.str (S (45 :: ds))) (some 1) none = some (.str (S ds)) := by
    rw [sl_S _ _ (by simp; omega)]
    have e1 : HT.sIx (45 :: ds).length 0 (some 1) = 1 := by
      have := HT.sIx_nat (45 :: ds).length 0 1
      rw [show (some ((1 : Nat) : Int)) = some (1 : Int) from rfl] at this
      rw [this]; simp
    rw [e1, HT.sIx_none]
    congr 3
    simp
  obtain ⟨ea, ed⟩ := digits_ok hd hn
  have e2 : isasciiO (S ds) [] = some (.bl true) := by show some (D.bl (Txt.isascii (S ds))) = _; rw [ea]
  have e3 : isdigitO (S ds) [] = some (.bl true) := by show some (D.bl (Txt.isdigit (S ds))) = _; rw [ed]
  obtain ⟨c, r, hcr⟩ : ∃ c r, ds = c :: r := by
    cases ds with
    | nil => exact absurd rfl hn
    | cons c r => exact ⟨c, r, rfl⟩
  have e4 : ixM (.str (S ds)) (.int 0) = pure (.str (S [c])) := by rw [hcr]; exact ix_S0 (by rw [hcr] at hl; simp at hl; omega)
  have e5 : lenO [.str (S ds)] = some (.int ds.length) := len_S (by omega)
  have e6 : modD (.int ds.length) (.int 60) = some (.int ((ds.length % 60 : Nat) : Int)) := by
    rw [mod_ok (by decide)]
    have : (ds.length : Int).fmod 60 = ((ds.length % 60 : Nat) : Int) := by rw [Int.fmod_eq_emod_of_nonneg _ (by decide)]; rfl
    rw [this]
  have e7 : slD (.str (S ds)) none (some ((ds.length % 60 : Nat) : Int)) = some (.str (S (ds.take (ds.length % 60)))) := by
    rw [sl_S _ _ (by omega), HT.sIx_none, HT.sIx_nat]
    congr 4
    have := Nat.mod_le ds.length 60
    omega
  have hp : AllDigits (48 :: ds.take (ds.length % 60)) := fun d hdm => by
    rcases List.mem_cons.mp hdm with z | z
    · omega
    · exact hd d (List.mem_of_mem_take z)
  have e8 : addD (.str (S [48])) (.str (S (ds.take (ds.length % 60)))) = some (.str (S (48 :: ds.take (ds.length % 60)))) := add_S (by simp; omega)
  have e9 : intO [.str (S (48 :: ds.take (ds.length % 60)))] = some (.int (digitsVal (ds.take (ds.length % 60)) : Nat)) := by
    rw [int_digits hp (by simp) (by simp; omega)]
    rfl
  have e10 : rngO [.int ((ds.length % 60 : Nat) : Int), .int ds.length, .int 60] = some (rgL ((ds.length % 60 : Nat) : Int) 60 (ds.length / 60)) := rng60 (by omega)
  have hsm : Sm (4 * (ds.length % 60)) (digitsVal (ds.take (ds.length % 60)) : Nat) := by
    unfold Sm
    have := dv_lt (a := ds.take (ds.length % 60)) fun c hc => hd c (List.mem_of_mem_take hc)
    have e : (ds.take (ds.length % 60)).length = ds.length % 60 := by
      have := Nat.mod_le ds.length 60
      rw [List.length_take]; omega
    rw [e] at this
    rw [Int.natAbs_natCast, Nat.pow_mul]
    exact Nat.lt_of_lt_of_le this (Nat.pow_le_pow_left (by decide) _)
  obtain ⟨y', hloop⟩ := sixty_loop hd (by omega) (t := .str (S t)) (d := .int ((ds.length % 60 : Nat) : Int)) (x := 0) (ds.length / 60) (ds.length % 60) (digitsVal (ds.take (ds.length % 60))) .no ω (by have := Nat.div_add_mod ds.length 60; omega) hsm rfl
  have e11 : neD (.str (S t)) (.str (S [48])) = some (!decide (t = [48])) := ne_S _ _
  have e12 : eqD (.str (S [c])) (.str (S [48])) = some (decide (c = 48)) := by rw [eq_S]; simp
  have hz2 : c = 48 → t = [48] := fun z => hz (by rw [hcr, z]; rfl)
  generalize ds.length % 60 = a at *
  generalize ds.length / 60 = q at *
  generalize (ds.length : Int) = L at *
  have e14 : (if c = 48 then (pure (!decide (t = [48])) : M Bool) else pure false) = pure false := by
    by_cases z : c = 48
    · rw [if_pos z, decide_eq_true (hz2 z)]; rfl
    · rw [if_neg z]
  rw [c_minus, c_zero]
  rcases ht with ht | ht
  · subst ht
    simp [startS, bodyR, asS, e0, e2, e3, e4, e5, e6, e7, e8, e9, e10, e12, e11, e14, hloop]
  · subst ht
    have hc48 : ¬ c = 48 := fun z => by have := hz2 z; simp at this
    have hne : ¬ (45 :: ds = ds) := fun z => by have := congrArg List.length z; simp at this
    simp [startS, bodyR, asS, e0, e1, e2, e3, e4, e5, e6, e7, e8, e9, e10, e12, e11, e14, hloop, hne, hc48]
theorem integer_from_ok {n : Int} (h : Sm 1900 n) : m_integer_from [.str (S (zl n))] = pure (.int n) := by
  have hl : (numL n.natAbs).length ≤ 600 := numL_len' h
  by_cases z : n < 0
  · have e : zl n = 45 :: numL n.natAbs := if_pos z
    rw [from_digits (TL.numL_digits _) (TL.numL_ne _) hl (.inr e) (fun y => absurd y (numL_head (by omega))), e, if_neg (fun y => by have := congrArg List.length y; simp at this), TL.numL_val]
    congr 2
    omega
  · have e : zl n = numL n.natAbs := if_neg z
    rw [from_digits (TL.numL_digits _) (TL.numL_ne _) hl (.inl e) (fun y => ?_), if_pos e, TL.numL_val]
    · congr 2
      omega
    · by_cases y0 : n.natAbs = 0
      · rw [e, y0]; rfl
      · exact absurd y (numL_head (by omega))

/-! ### fractions as texts -/
def qtl (q : Q2) : List Nat := if q.2 = 1 then zl q.1 else zl q.1 ++ 47 :: zl q.2
theorem qtl_len {q : Q2} (h1 : Sm 1900 q.1) (h2 : Sm 1900 q.2) : (qtl q).length ≤ 1300 := by
  have := zl_len h1
  have := zl_len h2
  unfold qtl; split <;> simp <;> omega
theorem qtl_sp {q : Q2} : 32 ∉ qtl q := by
  unfold qtl
  split
  · exact zl_free (.inl (by decide)) (by decide)
  · intro z
    rcases List.mem_append.mp z with z | z
    · exact zl_free (.inl (by decide)) (by decide) z
    · rcases List.mem_cons.mp z with z | z
      · cases z
      · exact zl_free (.inl (by decide)) (by decide) z
theorem zl_head_ne {n : Int} : zl n ≠ [45] := fun z => by
  unfold zl at z
  split at z
  · have := List.cons.inj z
    exact TL.numL_ne _ this.2
  · have := TL.numL_digits n.natAbs 45 (by rw [z]; simp)
    omega
theorem qtl_dash {q : Q2} : qtl q ≠ [45] := fun z => by
  unfold qtl at z
  split at z
  · exact zl_head_ne z
  · have := congrArg List.length z
    have h1 : 0 < (zl q.1).length := List.length_pos_iff.mpr (zl_ne _)
    have h2 : 0 < (zl q.2).length := List.length_pos_iff.mpr (zl_ne _)
    simp at this
    omega
theorem eq_int (i j : Int) : eqD (.int i) (.int j) = some (decide (i = j)) := by
  show eqP (.int i) (.int j) = _
  have h1 : SeqAt.shaped (.int i) = true := rfl
  have h2 : SeqAt.shaped (.int j) = true := rfl
  show (if SeqAt.shaped (.int i) = true ∧ SeqAt.shaped (.int j) = true then some (PyData.eqv (.int i) (.int j)) else none) = _
  rw [if_pos ⟨h1, h2⟩]
  rfl
theorem ne_int (i j : Int) : neD (.int i) (.int j) = some (!decide (i = j)) := by
  show (eqD _ _).map _ = _
  rw [eq_int]; rfl
theorem pair_text_ok {q : Q2} (h1 : Sm 1900 q.1) (h2 : Sm 1900 q.2) : m_pair_text [pr q] = pure (.str (S (qtl q))) := runB_pure rfl fun ω => by
  unfold s_pair_text
  have l1 := zl_len h1
  have l2 := zl_len h2
  by_cases z : q.2 = 1
  · have e : qtl q = zl q.1 := if_pos z
    simp [startS, bodyR, eq_int, z, integer_text_ok h1, e]
  · have e : qtl q = zl q.1 ++ 47 :: zl q.2 := if_neg z
    have e1 : addD (.str (S (zl q.1))) (.str (S [47])) = some (.str (S (zl q.1 ++ [47]))) := add_S (by simp; omega)
    have e2 : addD (.str (S (zl q.1 ++ [47]))) (.str (S (zl q.2))) = some (.str (S ((zl q.1 ++ [47]) ++ zl q.2))) := add_S (by simp; omega)
    simp [startS, bodyR, eq_int, z, integer_text_ok h1, integer_text_ok h2, e, c_slash, e1, e2]
theorem law_text_ok {q : Q2} (h1 : Sm 1900 q.1) (h2 : Sm 1900 q.2) : m__law_text [pr q] = pure (.str (S (qtl q))) := runB_pure rfl fun ω => by
  unfold s__law_text
  have l1 := zl_len h1
  have l2 := zl_len h2
  by_cases z : q.2 = 1
  · have e : qtl q = zl q.1 := if_pos z
    simp [startS, bodyR, eq_int, z, str_ok h1, e]
  · have e : qtl q = zl q.1 ++ 47 :: zl q.2 := if_neg z
    have e1 : addD (.str (S (zl q.1))) (.str (S [47])) = some (.str (S (zl q.1 ++ [47]))) := add_S (by simp; omega)
    have e2 : addD (.str (S (zl q.1 ++ [47]))) (.str (S (zl q.2))) = some (.str (S ((zl q.1 ++ [47]) ++ zl q.2))) := add_S (by simp; omega)
    simp [startS, bodyR, eq_int, z, str_ok h1, str_ok h2, e, c_slash, e1, e2]
@[simp] theorem is_int_non (i : Int) : isND (.int i) .non = some false := rfl
@[simp] theorem is_pr_non (q : Q2) : isND (pr q) .non = some false := rfl
@[simp] theorem is_non_non : isND .non .non = some true := rfl
@[simp] theorem isn_pr_non (q : Q2) : isNotD (pr q) .non = some true := rfl
@[simp] theorem isn_non_non : isNotD .non .non = some false := rfl
@[simp] theorem free_pr (q : Q2) : D.free (pr q) = true := by simp [pr]
theorem pair_from_ok {q : Q2} (h : VQ 1900 q) : m_pair_from [.str (S (qtl q))] = pure (pr q) := runB_pure rfl fun ω => by
  unfold s_pair_from
  have l1 := zl_len h.s1
  have l2 := zl_len h.s2
  have f1 : 47 ∉ zl q.1 := zl_free (.inl (by decide)) (by decide)
  have e47 : eqD (.str (S [47])) (.str (S [])) = some false := by rw [eq_S]; rfl
  have e00 : eqD (.str (S [])) (.str (S [])) = some true := by rw [eq_S]; rfl
  by_cases z : q.2 = 1
  · have e : qtl q = zl q.1 := if_pos z
    have e1 := part_no f1 (by omega)
    have er : pr q = .tup [.int q.1, .int 1] := by unfold pr; rw [z]
    simp [startS, bodyR, asS, c_slash, c_none, e, e1, integer_from_ok h.s1, e00, er, tgT, tgsCons, tgsNil]
  · have e : qtl q = zl q.1 ++ 47 :: zl q.2 := if_neg z
    have e1 := part_sl (b := zl q.2) f1 (by simp; omega)
    have hp := h.pos
    have e2 : ¬ q.2 < 2 := by omega
    have eg : gcdO [.int q.1, .int q.2] = some (.int 1) := by
      show some (D.int ((Int.gcd q.1 q.2 : Nat) : Int)) = _
      rw [h.cop]; rfl
    have e11 : neD (.int 1) (.int 1) = some false := by rw [ne_int]; rfl
    simp [startS, bodyR, asS, c_slash, c_none, e, e1, integer_from_ok h.s1, integer_from_ok h.s2, e47, tgT, tgsCons, tgsNil, e2, eg, e11]
    rfl
end K06
end

section
set_option Elab.async false
set_option linter.all false
set_option maxRecDepth 100000
set_option maxHeartbeats 4000000
set_option autoImplicit false
/-! K06S: stretches: made, written, read, compared. -/
namespace K06
open PySem PySem.Spec PyProof.Rows L2 DL SX
open TL (numL tl)
/-- an end, two ends -/
def en : Option Q2 → D
  | none => .non
  | some q => pr q
abbrev E2 := Option Q2 × Option Q2
def enp (a : E2) : D := .tup [en a.1, en a.2]
def VO (k : Nat) : Option Q2 → Prop
  | none => True
  | some q => VQ k q
/-- low below high -/
def okE (a : E2) : Prop := ∀ p q, a.1 = some p → a.2 = some q → ltQ p q
structure VE (k : Nat) (a : E2) : Prop where
  lo : VO k a.1
  hi : VO k a.2
  lt : okE a
def wl : Option Q2 → List Nat
  | none => [45]
  | some q => qtl q
def wr (a : E2) : List Nat := TL.joinL [32] [[40], wl a.1, wl a.2, [41]]
def st (a : E2) : D := .obj "Stretch" ["low", "high", "text"] [en a.1, en a.2, .str (S (wr a))]
@[simp] theorem free_en (o : Option Q2) : D.free (en o) = true := by cases o <;> simp [en]
@[simp] theorem free_enp (a : E2) : D.free (enp a) = true := by simp [enp]
theorem wl_len {k : Nat} {o : Option Q2} (h : VO k o) (hk : k ≤ 1900) : (wl o).length ≤ 1300 := by
  cases o with
  | none => simp [wl]
  | some q => exact qtl_len (VQ.s1 h |>.mono hk) (VQ.s2 h |>.mono hk)
theorem wl_sp (o : Option Q2) : 32 ∉ wl o := by
  cases o with
  | none => simp [wl]
  | some q => exact qtl_sp
theorem wr_eq (a : E2) : wr a = [40, 32] ++ wl a.1 ++ [32] ++ wl a.2 ++ [32, 41] := by
  simp [wr, TL.joinL]
theorem isn_en (o : Option Q2) : isNotD (en o) .non = some o.isSome := by cases o <;> rfl
theorem is_en (o : Option Q2) : isND (en o) .non = some o.isNone := by cases o <;> rfl
theorem eq_dash (o : Option Q2) : eqD (.str (S (wl o))) (.str (S [45])) = some o.isNone := by
  rw [eq_S]
  cases o with
  | none => rfl
  | some q => exact congrArg some (decide_eq_false qtl_dash)
theorem ne_dash (o : Option Q2) : neD (.str (S (wl o))) (.str (S [45])) = some o.isSome := by
  show (eqD _ _).map _ = _
  rw [eq_dash]; cases o <;> rfl
/-- words[i] -/
@[simp] theorem ix0 {α : Type} (a : D) (r : List D) : ixM (.lst (a :: r)) (.int 0) = pure a := by
  show ofOpt (atI (a :: r) 0) = _
  have e : atI (a :: r) 0 = some a := by simp [atI, ixN]
  rw [e]; rfl
theorem ends_words (ps : List (List Nat)) : (if ps.length = 4 then True else True) := by split <;> trivial
theorem ends_from_ok {k : Nat} {a : E2} (hk : k ≤ 1900) (h : VE k a) : m__ends_from [.str (S (wr a))] = pure (enp a) := runB_pure rfl fun ω => by
  unfold s__ends_from
  have hs := split_sp (parts := [[40], wl a.1, wl a.2, [41]]) (by simp) (by
    intro p hp
    simp at hp
    rcases hp with rfl | rfl | rfl | rfl
    · simp
    · exact wl_sp _
    · exact wl_sp _
    · simp) (by
    have := wl_len h.lo hk
    have := wl_len h.hi hk
    simp [TL.joinL]; omega)
  have hlen : lenO [.lst [.str (S [40]), .str (S (wl a.1)), .str (S (wl a.2)), .str (S [41])]] = some (.int 4) := rfl
  have e0 : ixM (.lst [.str (S [40]), .str (S (wl a.1)), .str (S (wl a.2)), .str (S [41])]) (.int 0) = pure (.str (S [40])) := rfl
  have e1 : ixM (.lst [.str (S [40]), .str (S (wl a.1)), .str (S (wl a.2)), .str (S [41])]) (.int 1) = pure (.str (S (wl a.1))) := rfl
  have e2 : ixM (.lst [.str (S [40]), .str (S (wl a.1)), .str (S (wl a.2)), .str (S [41])]) (.int 2) = pure (.str (S (wl a.2))) := rfl
  have e3 : ixM (.lst [.str (S [40]), .str (S (wl a.1)), .str (S (wl a.2)), .str (S [41])]) (.int 3) = pure (.str (S [41])) := rfl
  have n40 : neD (.str (S [40])) (.str (S [40])) = some false := by rw [ne_S]; rfl
  have n41 : neD (.str (S [41])) (.str (S [41])) = some false := by rw [ne_S]; rfl
  have n4 : neD (.int 4) (.int 4) = some false := by rw [ne_int]; rfl
  rw [c_sp, c_open, c_close, c_minus]
  show bodyR _ = _
  unfold wr
  obtain ⟨lo, hi⟩ := a
  have p1 : ∀ q, lo = some q → m_pair_from [.str (S (wl lo))] = pure (en lo) := fun q e => by subst e; exact pair_from_ok (h.lo.mono hk)
  have p2 : ∀ q, hi = some q → m_pair_from [.str (S (wl hi))] = pure (en hi) := fun q e => by subst e; exact pair_from_ok (h.hi.mono hk)
  have q1 := eq_dash lo
  have q2 := eq_dash hi
  have q3 := ne_dash lo
  have q4 := ne_dash hi
  have i1 := is_en lo
  have i2 := is_en hi
  have i3 := isn_en lo
  have i4 := isn_en hi
  cases lo with
  | none =>
    cases hi with
    | none => simp [startS, bodyR, asS, hs, hlen, e0, e1, e2, e3, n40, n41, n4, q1, q2, q3, q4, i1, i2, i3, i4, enp, en]
    | some q => simp [startS, bodyR, asS, hs, hlen, e0, e1, e2, e3, n40, n41, n4, q1, q2, q3, q4, i1, i2, i3, i4, enp, en, p2 q rfl]
  | some p =>
    cases hi with
    | none => simp [startS, bodyR, asS, hs, hlen, e0, e1, e2, e3, n40, n41, n4, q1, q2, q3, q4, i1, i2, i3, i4, enp, en, p1 p rfl]
    | some q =>
      have hlt : ltQ p q := h.lt p q rfl rfl
      have ho := order_of_ok (VQ.s1 h.lo) (VQ.s2 h.lo) (VQ.s1 h.hi) (VQ.s2 h.hi) (by omega)
      have hn : ¬ 0 ≤ ordQ p q := fun z => ord_ge.mp z hlt
      simp [startS, bodyR, asS, hs, hlen, e0, e1, e2, e3, n40, n41, n4, q1, q2, q3, q4, i1, i2, i3, i4, enp, en, p1 p rfl, p2 q rfl, ho, hn]

theorem join_eqD (z : Str) (xs : List D) : joinO z [.lst xs] = (asSs xs).bind fun ys => if (ys.map (·.length)).sum + ys.length * z.length ≤ 16777216 then some (.str (Txt.join z ys)) else none := rfl
/-! ### making -/
theorem runI_pure {c : Str} {n N : Nat} {s : SM} {ds : List D} {d : D} (h : ds.length = n) (e : ∀ ω, initR (s (.own (.obj c [] []) :: startS (N - 1) ds) ω) = .ok d ω) : runI c n N s ds = pure d := M.ext fun ω => by
  show (if ds.length = n then initR (s (.own (.obj c [] []) :: startS (N - 1) ds) ω) else .bad) = _
  rw [if_pos h, e]
  rfl
theorem put1 (y : D) (r : Sls) (ω : Om) : putK Tb 0 "low" y (.own (.obj "Stretch" [] []) :: r) ω = .nx (.own (.obj "Stretch" ["low"] [y]) :: r) ω := rfl
theorem put2 (x y : D) (r : Sls) (ω : Om) : putK Tb 0 "high" y (.own (.obj "Stretch" ["low"] [x]) :: r) ω = .nx (.own (.obj "Stretch" ["low", "high"] [x, y]) :: r) ω := rfl
theorem put3 (x z y : D) (r : Sls) (ω : Om) : putK Tb 0 "text" y (.own (.obj "Stretch" ["low", "high"] [x, z]) :: r) ω = .nx (.own (.obj "Stretch" ["low", "high", "text"] [x, z, y]) :: r) ω := rfl
theorem ix_e0 (a : E2) : ixM (enp a) (.int 0) = pure (en a.1) := rfl
theorem ix_e1 (a : E2) : ixM (enp a) (.int 1) = pure (en a.2) := rfl
theorem init_ok {k : Nat} {a : E2} (hk : k ≤ 1900) (h : VE k a) : m_Stretch_init [.str (S (wr a))] = pure (st a) := runI_pure rfl fun ω => by
  unfold s_Stretch_init
  have e1 : isK Tb (.ty "str") (.str (S (wr a))) = some true := rfl
  have e2 : isND (enp a) .non = some false := rfl
  simp [startS, initR, e1, ends_from_ok hk h, e2, ix_e0, ix_e1, put1, put2, put3, st]
theorem law_written_ok {k : Nat} {a : E2} (hk : k ≤ 1900) (h1 : VO k a.1) (h2 : VO k a.2) : m__law_written [enp a] = pure (.str (S (wr a))) := runB_pure rfl fun ω => by
  unfold s__law_written
  have l1 := wl_len h1 hk
  have l2 := wl_len h2 hk
  have es : seqD (enp a) = some [en a.1, en a.2] := rfl
  have el : ∀ (o : Option Q2) (i : Decidable (o = none)), VO k o → (@ite (M D) (o = none) i (pure (.str (S [45]))) (m__law_text [en o])) = pure (.str (S (wl o))) := fun o i ho => by
    cases o with
    | none => rw [if_pos rfl]; rfl
    | some q => rw [if_neg (by simp)]; exact law_text_ok ((VQ.s1 ho).mono hk) ((VQ.s2 ho).mono hk)
  have ej : joinO (S [32]) [.lst [.str (S (wl a.1)), .str (S (wl a.2))]] = some (.str (S (wl a.1 ++ 32 :: wl a.2))) := by
    have : asSs [.str (S (wl a.1)), .str (S (wl a.2))] = some ([wl a.1, wl a.2].map S) := rfl
    rw [join_eqD, this, Option.bind_some, if_pos, join_S]
    · simp [TL.joinL]
    · simp [S_length]; omega
  have a1 : addD (.str (S [40, 32])) (.str (S (wl a.1 ++ 32 :: wl a.2))) = some (.str (S (40 :: 32 :: (wl a.1 ++ 32 :: wl a.2)))) := add_S (a := [40, 32]) (by simp; omega)
  have a2 : addD (.str (S (40 :: 32 :: (wl a.1 ++ 32 :: wl a.2)))) (.str (S [32, 41])) = some (.str (S ((40 :: 32 :: (wl a.1 ++ 32 :: wl a.2)) ++ [32, 41]))) := add_S (by simp; omega)
  have ew : (40 :: 32 :: (wl a.1 ++ 32 :: wl a.2)) ++ [32, 41] = wr a := by rw [wr_eq]; simp
  rw [ew] at a2
  rw [c_sp, c_opens, c_closes, c_minus]
  simp [startS, bodyR, asS, es, lcGo, is_en, el _ _ h1, el _ _ h2, wipeS, ej, a1, a2]

theorem eq_pr (p q : Q2) : eqD (pr p) (pr q) = some (decide (p = q)) := by
  have h1 : ∀ x : Q2, SeqAt.shaped (.tuple [.int x.1, .int x.2]) = true := fun _ => rfl
  show (if SeqAt.shaped (.tuple [.int p.1, .int p.2]) = true ∧ SeqAt.shaped (.tuple [.int q.1, .int q.2]) = true then some (PyData.eqv (.tuple [.int p.1, .int p.2]) (.tuple [.int q.1, .int q.2])) else none) = _
  rw [if_pos ⟨h1 p, h1 q⟩]
  simp [PyData.eqv, PyData.eqvAll]
  obtain ⟨a, b⟩ := p
  obtain ⟨c, d⟩ := q
  simp only [Prod.mk.injEq]
  by_cases h1 : a = c <;> by_cases h2 : b = d <;> simp [h1, h2]
theorem eq_en (x y : Option Q2) : eqD (en x) (en y) = some (decide (x = y)) := by
  cases x with
  | none => cases y <;> rfl
  | some p =>
    cases y with
    | none => rfl
    | some q => rw [show eqD (en (some p)) (en (some q)) = _ from eq_pr p q]; simp
@[simp] theorem fld_lo (a : E2) : fldO Tb "low" (st a) = some (en a.1) := rfl
@[simp] theorem fld_hi (a : E2) : fldO Tb "high" (st a) = some (en a.2) := rfl
@[simp] theorem fld_tx (a : E2) : fldO Tb "text" (st a) = some (.str (S (wr a))) := rfl
theorem eq_ok (a b : E2) : m_Stretch___eq__ [st a, st b] = pure (.bl (decide (a = b))) := runB_pure rfl fun ω => by
  unfold s_Stretch___eq__
  have e1 : isK Tb (.own "Stretch") (st b) = some true := rfl
  by_cases h1 : a.1 = b.1
  · by_cases h2 : a.2 = b.2
    · have : a = b := Prod.ext h1 h2
      simp [startS, bodyR, e1, eq_en, this]
    · have : ¬ a = b := fun z => h2 (by rw [z])
      simp [startS, bodyR, e1, eq_en, h1, h2, this]
  · have : ¬ a = b := fun z => h1 (by rw [z])
    simp [startS, bodyR, e1, eq_en, h1, this]
theorem eq_str (a : E2) (z : Str) : m_Stretch___eq__ [st a, .str z] = pure (.bl false) := runB_pure rfl fun ω => rfl

/-! ### loose ends -/
def LQ (q : Q2) : Prop := 0 < q.2 ∧ Sm 1900 q.1 ∧ Sm 1900 q.2
def LO (o : Option Q2) : Prop := ∀ q, o = some q → LQ q
def lo : Option Q2 → Option Q2
  | none => none
  | some q => some (lowQ q.1 q.2)
theorem VQ.lq {k : Nat} {q : Q2} (h : VQ k q) (hk : k ≤ 1900) : LQ q := ⟨h.pos, h.s1.mono hk, h.s2.mono hk⟩
theorem VO.lo {k : Nat} {o : Option Q2} (h : VO k o) (hk : k ≤ 1900) : LO o := fun q e => by subst e; exact VQ.lq h hk
theorem lo_self {k : Nat} {o : Option Q2} (h : VO k o) : lo o = o := by
  cases o with
  | none => rfl
  | some q => exact congrArg some (lowQ_self h)
theorem lo_valid {o : Option Q2} (h : LO o) : VO 1900 (lo o) := by
  cases o with
  | none => trivial
  | some q =>
    obtain ⟨h1, h2, h3⟩ := h q rfl
    exact lowQ_valid (by omega) h2 h3
theorem end_text_ok {o : Option Q2} (h : LO o) : m__end_text [en o] = pure (.str (S (wl (lo o)))) := runB_pure rfl fun ω => by
  unfold s__end_text
  rw [c_minus]
  cases o with
  | none => simp [startS, bodyR, is_en]; rfl
  | some q =>
    obtain ⟨h1, h2, h3⟩ := h q rfl
    have v := lowQ_valid (a := q.1) (b := q.2) (by omega) h2 h3
    simp [startS, bodyR, en, pair_of_pr (q := q) (by omega) (h3.mono (by decide)), pair_text_ok v.s1 v.s2]
    rfl
theorem isf_en {o : Option Q2} {q : Q2} (h : LO o) (e : o = some q) : m_is_fraction [pr q] = pure (.bl true) := by
  obtain ⟨h1, h2, h3⟩ := h q e
  rw [isf_pr, decide_eq_true (by omega)]
theorem pair_of_en {o : Option Q2} {q : Q2} (h : LO o) (e : o = some q) : m_pair_of [pr q] = pure (pr (lowQ q.1 q.2)) := by
  obtain ⟨h1, h2, h3⟩ := h q e
  exact pair_of_pr (by omega) (h3.mono (by decide))
theorem cat_ok {k : Nat} {a : E2} (hk : k ≤ 1900) (h1 : VO k a.1) (h2 : VO k a.2) : ∃ x y z, addD (.str (S [40, 32])) (.str (S (wl a.1))) = some (.str (S x)) ∧ addD (.str (S x)) (.str (S [32])) = some (.str (S y)) ∧ addD (.str (S y)) (.str (S (wl a.2))) = some (.str (S z)) ∧ addD (.str (S z)) (.str (S [32, 41])) = some (.str (S (wr a))) := by
  have l1 := wl_len h1 hk
  have l2 := wl_len h2 hk
  refine ⟨[40, 32] ++ wl a.1, [40, 32] ++ wl a.1 ++ [32], [40, 32] ++ wl a.1 ++ [32] ++ wl a.2, add_S (by simp; omega), add_S (by simp; omega), add_S (by simp; omega), ?_⟩
  rw [wr_eq]
  exact add_S (by simp; omega)
@[simp] theorem seq_t (xs : List D) : seqD (.tup xs) = some xs := rfl
@[simp] theorem seq_l (xs : List D) : seqD (.lst xs) = some xs := rfl
theorem stretch_of_ok {x y : Option Q2} (hx : LO x) (hy : LO y) (h : okE (lo x, lo y)) : m_stretch_of [en x, en y] = pure (st (lo x, lo y)) := runB_pure rfl fun ω => by
  unfold s_stretch_of
  have vx := lo_valid hx
  have vy := lo_valid hy
  have hi := init_ok (a := (lo x, lo y)) (Nat.le_refl 1900) ⟨vx, vy, h⟩
  obtain ⟨z1, z2, z3, a1, a2, a3, a4⟩ := cat_ok (a := (lo x, lo y)) (Nat.le_refl 1900) vx vy
  have tx := end_text_ok hx
  have ty := end_text_ok hy
  rw [c_sp, c_opens, c_closes]
  cases x with
  | none =>
    have tx' : m__end_text [.non] = pure (.str (S (wl (lo none)))) := tx
    cases y with
    | none => simp [startS, bodyR, forS, en, tx', a1, a2, a3, a4, hi]
    | some q =>
      have ty' : m__end_text [pr q] = pure (.str (S (wl (lo (some q))))) := ty
      simp [startS, bodyR, forS, tx', ty', a1, a2, a3, a4, hi, en, isf_en hy rfl]
  | some p =>
    have tx' : m__end_text [pr p] = pure (.str (S (wl (lo (some p))))) := tx
    cases y with
    | none =>
      have ty' : m__end_text [.non] = pure (.str (S (wl (lo none)))) := ty
      simp [startS, bodyR, forS, tx', ty', a1, a2, a3, a4, hi, en, isf_en hx rfl]
    | some q =>
      have ty' : m__end_text [pr q] = pure (.str (S (wl (lo (some q))))) := ty
      have ho := order_of_ok (VQ.s1 vx) (VQ.s2 vx) (VQ.s1 vy) (VQ.s2 vy) (by omega)
      have hn : ¬ 0 ≤ ordQ (lowQ p.1 p.2) (lowQ q.1 q.2) := fun z => ord_ge.mp z (h _ _ rfl rfl)
      simp [startS, bodyR, forS, en, isf_en hx rfl, isf_en hy rfl, pair_of_en hx rfl, pair_of_en hy rfl, ho, hn, tx', ty', a1, a2, a3, a4, hi]
end K06
end

section
set_option Elab.async false
set_option linter.all false
set_option maxRecDepth 100000
set_option maxHeartbeats 4000000
set_option autoImplicit false
/-! K06M: the methods of a stretch and the law's own sets. -/
namespace K06
open PySem PySem.Spec PyProof.Rows L2 DL SX
/-! ### the sets -/
def below : Option Q2 → Option Q2 → Bool
  | none, _ => true
  | some _, none => false
  | some p, some q => decide (¬ ltQ q p)
def above : Option Q2 → Option Q2 → Bool
  | none, _ => true
  | some _, none => false
  | some p, some q => decide (¬ ltQ p q)
def hullE (a b : E2) : E2 := (if below a.1 b.1 then a.1 else b.1, if above a.2 b.2 then a.2 else b.2)
def meet (a b : E2) : E2 := (if below a.1 b.1 then b.1 else a.1, if above a.2 b.2 then b.2 else a.2)
def openE : E2 → Bool
  | (some p, some q) => decide (ltQ p q)
  | _ => true
def sharedE (a b : E2) : Option E2 := if openE (meet a b) then some (meet a b) else none
def holdsE (a : E2) (q : Q2) : Bool := (match a.1 with | none => true | some p => decide (ltQ p q)) && (match a.2 with | none => true | some p => decide (ltQ q p))
theorem openE_ok {a : E2} : openE a = true ↔ okE a := by
  obtain ⟨x, y⟩ := a
  cases x <;> cases y <;> simp [openE, okE]
/-- the hull of two is one -/
theorem hull_VE {k : Nat} {a b : E2} (ha : VE k a) (hb : VE k b) : VE k (hullE a b) := by
  obtain ⟨a1, a2⟩ := a
  obtain ⟨b1, b2⟩ := b
  refine ⟨?_, ?_, ?_⟩
  · show VO k (if below a1 b1 then a1 else b1)
    split
    · exact ha.lo
    · exact hb.lo
  · show VO k (if above a2 b2 then a2 else b2)
    split
    · exact ha.hi
    · exact hb.hi
  · intro p q hp hq
    have hp' : (if below a1 b1 then a1 else b1) = some p := hp
    clear hp
    have hq' : (if above a2 b2 then a2 else b2) = some q := hq
    clear hq
    cases a1 with
    | none => simp [below] at hp'
    | some x =>
      cases b1 with
      | none => simp [below] at hp'
      | some y =>
        cases a2 with
        | none => simp [above] at hq'
        | some z =>
          cases b2 with
          | none => simp [above] at hq'
          | some w =>
            have vx : VQ k x := ha.lo
            have vy : VQ k y := hb.lo
            have vz : VQ k z := ha.hi
            have vw : VQ k w := hb.hi
            have lx := ha.lt x z rfl rfl
            have ly := hb.lt y w rfl rfl
            -- p is not above x, q is not below z
            have hpx : ¬ ltQ x p ∧ 0 < p.2 := by
              by_cases e : ltQ y x
              · simp [below, e] at hp'; subst hp'; exact ⟨ltQ_asymm e, vy.pos⟩
              · simp [below, e] at hp'; subst hp'; exact ⟨ltQ_irrefl _, vx.pos⟩
            have hqz : ¬ ltQ q z ∧ 0 < q.2 := by
              by_cases e : ltQ z w
              · simp [above, e] at hq'; subst hq'; exact ⟨ltQ_asymm e, vw.pos⟩
              · simp [above, e] at hq'; subst hq'; exact ⟨ltQ_irrefl _, vz.pos⟩
            exact le_ltQ vx.pos hpx.2 hqz.2 hpx.1 (lt_leQ vz.pos vx.pos hqz.2 lx hqz.1)
theorem meet_VO {k : Nat} {a b : E2} (ha : VE k a) (hb : VE k b) : VO k (meet a b).1 ∧ VO k (meet a b).2 := by
  constructor
  · show VO k (if below a.1 b.1 then b.1 else a.1)
    split
    · exact hb.lo
    · exact ha.lo
  · show VO k (if above a.2 b.2 then b.2 else a.2)
    split
    · exact hb.hi
    · exact ha.hi
theorem shared_VE {k : Nat} {a b c : E2} (ha : VE k a) (hb : VE k b) (h : sharedE a b = some c) : VE k c := by
  unfold sharedE at h
  split at h
  · rename_i ho
    cases h
    obtain ⟨h1, h2⟩ := meet_VO ha hb
    exact ⟨h1, h2, openE_ok.mp ho⟩
  · cases h
/-! ### the methods -/
theorem ord_ok {p q : Q2} (hp : VQ 1900 p) (hq : VQ 1900 q) : m_order_of [pr p, pr q] = pure (.int (ordQ p q)) := order_of_ok hp.s1 hp.s2 hq.s1 hq.s2 (by omega)
theorem o_lt {p q : Q2} : decide (ordQ p q < 0) = decide (ltQ p q) := decide_eq_decide.mpr ord_neg
theorem o_le {p q : Q2} : decide (ordQ p q ≤ 0) = decide (¬ ltQ q p) := decide_eq_decide.mpr ord_le
theorem o_gt {p q : Q2} : decide (0 < ordQ p q) = decide (ltQ q p) := decide_eq_decide.mpr ord_pos
theorem o_ge {p q : Q2} : decide (0 ≤ ordQ p q) = decide (¬ ltQ p q) := decide_eq_decide.mpr ord_ge
theorem within_ok {a b : E2} (ha : VE 1900 a) (hb : VE 1900 b) : m_Stretch_within [st a, st b] = pure (.bl (below b.1 a.1 && above b.2 a.2)) := runB_pure rfl fun ω => by
  unfold s_Stretch_within
  obtain ⟨a1, a2⟩ := a
  obtain ⟨b1, b2⟩ := b
  have h1 : VO 1900 a1 := ha.lo
  have h2 : VO 1900 a2 := ha.hi
  have h3 : VO 1900 b1 := hb.lo
  have h4 : VO 1900 b2 := hb.hi
  have o1 : ∀ p q, a1 = some p → b1 = some q → m_order_of [pr p, pr q] = pure (.int (ordQ p q)) := fun p q e1 e2 => by subst e1; subst e2; exact ord_ok h1 h3
  have o2 : ∀ p q, a2 = some p → b2 = some q → m_order_of [pr p, pr q] = pure (.int (ordQ p q)) := fun p q e1 e2 => by subst e1; subst e2; exact ord_ok h2 h4
  cases a1 with
  | none =>
    cases b1 with
    | none =>
      cases a2 with
      | none =>
        cases b2 with
        | none =>
          simp [startS, bodyR, en, below, above, o1, o2, ord_neg, ord_le]
        | some s =>
          simp [startS, bodyR, en, below, above, o1, o2, ord_neg, ord_le]
      | some r =>
        cases b2 with
        | none =>
          simp [startS, bodyR, en, below, above, o1, o2, ord_neg, ord_le]
        | some s =>
          by_cases z2 : ltQ s r <;> simp [startS, bodyR, en, below, above, o1, o2, ord_neg, ord_le, z2]
    | some q =>
      cases a2 with
      | none =>
        cases b2 with
        | none =>
          simp [startS, bodyR, en, below, above, o1, o2, ord_neg, ord_le]
        | some s =>
          simp [startS, bodyR, en, below, above, o1, o2, ord_neg, ord_le]
      | some r =>
        cases b2 with
        | none =>
          simp [startS, bodyR, en, below, above, o1, o2, ord_neg, ord_le]
        | some s =>
          by_cases z2 : ltQ s r <;> simp [startS, bodyR, en, below, above, o1, o2, ord_neg, ord_le, z2]
  | some p =>
    cases b1 with
    | none =>
      cases a2 with
      | none =>
        cases b2 with
        | none =>
          simp [startS, bodyR, en, below, above, o1, o2, ord_neg, ord_le]
        | some s =>
          simp [startS, bodyR, en, below, above, o1, o2, ord_neg, ord_le]
      | some r =>
        cases b2 with
        | none =>
          simp [startS, bodyR, en, below, above, o1, o2, ord_neg, ord_le]
        | some s =>
          by_cases z2 : ltQ s r <;> simp [startS, bodyR, en, below, above, o1, o2, ord_neg, ord_le, z2]
    | some q =>
      cases a2 with
      | none =>
        cases b2 with
        | none =>
          by_cases z1 : ltQ p q <;> simp [startS, bodyR, en, below, above, o1, o2, ord_neg, ord_le, z1]
        | some s =>
          by_cases z1 : ltQ p q <;> simp [startS, bodyR, en, below, above, o1, o2, ord_neg, ord_le, z1]
      | some r =>
        cases b2 with
        | none =>
          by_cases z1 : ltQ p q <;> simp [startS, bodyR, en, below, above, o1, o2, ord_neg, ord_le, z1]
        | some s =>
          by_cases z1 : ltQ p q <;> by_cases z2 : ltQ s r <;> simp [startS, bodyR, en, below, above, o1, o2, ord_neg, ord_le, z1, z2]
theorem stretch_ok {a : E2} (h : VE 1900 a) : m_stretch_of [en a.1, en a.2] = pure (st a) := by
  have e := stretch_of_ok (h.lo.lo (Nat.le_refl _)) (h.hi.lo (Nat.le_refl _)) (by rw [lo_self h.lo, lo_self h.hi]; exact h.lt)
  rw [lo_self h.lo, lo_self h.hi] at e
  exact e
theorem hull_ok {a b : E2} (ha : VE 1900 a) (hb : VE 1900 b) : m_Stretch_hull [st a, st b] = pure (st (hullE a b)) := runB_pure rfl fun ω => by
  unfold s_Stretch_hull
  have hfin := stretch_ok (hull_VE ha hb)
  obtain ⟨a1, a2⟩ := a
  obtain ⟨b1, b2⟩ := b
  have h1 : VO 1900 a1 := ha.lo
  have h2 : VO 1900 a2 := ha.hi
  have h3 : VO 1900 b1 := hb.lo
  have h4 : VO 1900 b2 := hb.hi
  clear ha hb
  cases a1 with
  | none =>
    cases b1 with
    | none =>
      cases a2 with
      | none =>
        cases b2 with
        | none =>
          (simp [hullE, below, above, en] at hfin; simp [startS, bodyR, en, hullE, below, above, ord_ok, ord_le, ord_ge, tgT, tgsCons, tgsNil, hfin])
        | some s =>
          (simp [hullE, below, above, en] at hfin; simp [startS, bodyR, en, hullE, below, above, ord_ok, ord_le, ord_ge, tgT, tgsCons, tgsNil, hfin, show VQ 1900 s from h4])
      | some r =>
        cases b2 with
        | none =>
          (simp [hullE, below, above, en] at hfin; simp [startS, bodyR, en, hullE, below, above, ord_ok, ord_le, ord_ge, tgT, tgsCons, tgsNil, hfin, show VQ 1900 r from h2])
        | some s =>
          by_cases z2 : ltQ r s <;> (simp [hullE, below, above, en, z2] at hfin; simp [startS, bodyR, en, hullE, below, above, ord_ok, ord_le, ord_ge, tgT, tgsCons, tgsNil, hfin, z2, show VQ 1900 r from h2, show VQ 1900 s from h4])
    | some q =>
      cases a2 with
      | none =>
        cases b2 with
        | none =>
          (simp [hullE, below, above, en] at hfin; simp [startS, bodyR, en, hullE, below, above, ord_ok, ord_le, ord_ge, tgT, tgsCons, tgsNil, hfin, show VQ 1900 q from h3])
        | some s =>
          (simp [hullE, below, above, en] at hfin; simp [startS, bodyR, en, hullE, below, above, ord_ok, ord_le, ord_ge, tgT, tgsCons, tgsNil, hfin, show VQ 1900 q from h3, show VQ 1900 s from h4])
      | some r =>
        cases b2 with
        | none =>
          (simp [hullE, below, above, en] at hfin; simp [startS, bodyR, en, hullE, below, above, ord_ok, ord_le, ord_ge, tgT, tgsCons, tgsNil, hfin, show VQ 1900 q from h3, show VQ 1900 r from h2])
        | some s =>
          by_cases z2 : ltQ r s <;> (simp [hullE, below, above, en, z2] at hfin; simp [startS, bodyR, en, hullE, below, above, ord_ok, ord_le, ord_ge, tgT, tgsCons, tgsNil, hfin, z2, show VQ 1900 q from h3, show VQ 1900 r from h2, show VQ 1900 s from h4])
  | some p =>
    cases b1 with
    | none =>
      cases a2 with
      | none =>
        cases b2 with
        | none =>
          (simp [hullE, below, above, en] at hfin; simp [startS, bodyR, en, hullE, below, above, ord_ok, ord_le, ord_ge, tgT, tgsCons, tgsNil, hfin, show VQ 1900 p from h1])
        | some s =>
          (simp [hullE, below, above, en] at hfin; simp [startS, bodyR, en, hullE, below, above, ord_ok, ord_le, ord_ge, tgT, tgsCons, tgsNil, hfin, show VQ 1900 p from h1, show VQ 1900 s from h4])
      | some r =>
        cases b2 with
        | none =>
          (simp [hullE, below, above, en] at hfin; simp [startS, bodyR, en, hullE, below, above, ord_ok, ord_le, ord_ge, tgT, tgsCons, tgsNil, hfin, show VQ 1900 p from h1, show VQ 1900 r from h2])
        | some s =>
          by_cases z2 : ltQ r s <;> (simp [hullE, below, above, en, z2] at hfin; simp [startS, bodyR, en, hullE, below, above, ord_ok, ord_le, ord_ge, tgT, tgsCons, tgsNil, hfin, z2, show VQ 1900 p from h1, show VQ 1900 r from h2, show VQ 1900 s from h4])
    | some q =>
      cases a2 with
      | none =>
        cases b2 with
        | none =>
          by_cases z1 : ltQ q p <;> (simp [hullE, below, above, en, z1] at hfin; simp [startS, bodyR, en, hullE, below, above, ord_ok, ord_le, ord_ge, tgT, tgsCons, tgsNil, hfin, z1, show VQ 1900 p from h1, show VQ 1900 q from h3])
        | some s =>
          by_cases z1 : ltQ q p <;> (simp [hullE, below, above, en, z1] at hfin; simp [startS, bodyR, en, hullE, below, above, ord_ok, ord_le, ord_ge, tgT, tgsCons, tgsNil, hfin, z1, show VQ 1900 p from h1, show VQ 1900 q from h3, show VQ 1900 s from h4])
      | some r =>
        cases b2 with
        | none =>
          by_cases z1 : ltQ q p <;> (simp [hullE, below, above, en, z1] at hfin; simp [startS, bodyR, en, hullE, below, above, ord_ok, ord_le, ord_ge, tgT, tgsCons, tgsNil, hfin, z1, show VQ 1900 p from h1, show VQ 1900 q from h3, show VQ 1900 r from h2])
        | some s =>
          by_cases z1 : ltQ q p <;> by_cases z2 : ltQ r s <;> (simp [hullE, below, above, en, z1, z2] at hfin; simp [startS, bodyR, en, hullE, below, above, ord_ok, ord_le, ord_ge, tgT, tgsCons, tgsNil, hfin, z1, z2, show VQ 1900 p from h1, show VQ 1900 q from h3, show VQ 1900 r from h2, show VQ 1900 s from h4])
theorem meet_eq {a b : E2} (ha : VE 1900 a) (hb : VE 1900 b) : meet a b = ((match a.1, b.1 with | none, y => y | some p, none => some p | some p, some q => if ltQ p q then some q else some p), (match a.2, b.2 with | none, y => y | some p, none => some p | some p, some q => if ltQ q p then some q else some p)) := by
  obtain ⟨a1, a2⟩ := a
  obtain ⟨b1, b2⟩ := b
  have h1 : VO 1900 a1 := ha.lo
  have h2 : VO 1900 a2 := ha.hi
  have h3 : VO 1900 b1 := hb.lo
  have h4 : VO 1900 b2 := hb.hi
  clear ha hb
  refine Prod.ext ?_ ?_
  · show (if below a1 b1 then b1 else a1) = _
    cases a1 with
    | none => simp [below]
    | some p =>
      cases b1 with
      | none => simp [below]
      | some q =>
        by_cases z : ltQ p q
        · simp [below, z, ltQ_asymm z]
        · by_cases z2 : ltQ q p
          · simp [below, z, z2]
          · have := vq_eq' h1 h3 z z2
            subst this
            simp
  · show (if above a2 b2 then b2 else a2) = _
    cases a2 with
    | none => simp [above]
    | some p =>
      cases b2 with
      | none => simp [above]
      | some q =>
        by_cases z : ltQ p q
        · simp [above, z, ltQ_asymm z]
        · by_cases z2 : ltQ q p
          · simp [above, z, z2]
          · have := vq_eq' h2 h4 z z2
            subst this
            simp [z]
def enO : Option E2 → D
  | none => .non
  | some a => st a
theorem shared_ok {a b : E2} (ha : VE 1900 a) (hb : VE 1900 b) : m_Stretch_shared [st a, st b] = pure (enO (sharedE a b)) := runB_pure rfl fun ω => by
  unfold s_Stretch_shared
  have hfin : openE (meet a b) = true → m_stretch_of [en (meet a b).1, en (meet a b).2] = pure (st (meet a b)) := fun h => stretch_ok ⟨(meet_VO ha hb).1, (meet_VO ha hb).2, openE_ok.mp h⟩
  unfold sharedE
  rw [meet_eq ha hb] at hfin ⊢
  obtain ⟨a1, a2⟩ := a
  obtain ⟨b1, b2⟩ := b
  have h1 : VO 1900 a1 := ha.lo
  have h2 : VO 1900 a2 := ha.hi
  have h3 : VO 1900 b1 := hb.lo
  have h4 : VO 1900 b2 := hb.hi
  clear ha hb
  cases a1 with
  | none =>
    cases b1 with
    | none =>
      cases a2 with
      | none =>
        cases b2 with
        | none =>
          (simp [openE, en] at hfin; simp [startS, bodyR, en, enO, openE, ord_ok, ord_neg, ord_pos, ord_ge, hfin])
        | some s =>
          (simp [openE, en] at hfin; simp [startS, bodyR, en, enO, openE, ord_ok, ord_neg, ord_pos, ord_ge, hfin, show VQ 1900 s from h4])
      | some r =>
        cases b2 with
        | none =>
          (simp [openE, en] at hfin; simp [startS, bodyR, en, enO, openE, ord_ok, ord_neg, ord_pos, ord_ge, hfin, show VQ 1900 r from h2])
        | some s =>
          by_cases z2 : ltQ s r <;> (simp [openE, en, z2] at hfin; simp [startS, bodyR, en, enO, openE, ord_ok, ord_neg, ord_pos, ord_ge, hfin, z2, show VQ 1900 r from h2, show VQ 1900 s from h4])
    | some q =>
      cases a2 with
      | none =>
        cases b2 with
        | none =>
          (simp [openE, en] at hfin; simp [startS, bodyR, en, enO, openE, ord_ok, ord_neg, ord_pos, ord_ge, hfin, show VQ 1900 q from h3])
        | some s =>
          by_cases z6 : ltQ q s <;> (simp [openE, en, z6] at hfin; simp [startS, bodyR, en, enO, openE, ord_ok, ord_neg, ord_pos, ord_ge, hfin, z6, show VQ 1900 q from h3, show VQ 1900 s from h4])
      | some r =>
        cases b2 with
        | none =>
          by_cases z5 : ltQ q r <;> (simp [openE, en, z5] at hfin; simp [startS, bodyR, en, enO, openE, ord_ok, ord_neg, ord_pos, ord_ge, hfin, z5, show VQ 1900 q from h3, show VQ 1900 r from h2])
        | some s =>
          by_cases z2 : ltQ s r <;> by_cases z5 : ltQ q r <;> by_cases z6 : ltQ q s <;> (simp [openE, en, z2, z5, z6] at hfin; simp [startS, bodyR, en, enO, openE, ord_ok, ord_neg, ord_pos, ord_ge, hfin, z2, z5, z6, show VQ 1900 q from h3, show VQ 1900 r from h2, show VQ 1900 s from h4])
  | some p =>
    cases b1 with
    | none =>
      cases a2 with
      | none =>
        cases b2 with
        | none =>
          (simp [openE, en] at hfin; simp [startS, bodyR, en, enO, openE, ord_ok, ord_neg, ord_pos, ord_ge, hfin, show VQ 1900 p from h1])
        | some s =>
          by_cases z4 : ltQ p s <;> (simp [openE, en, z4] at hfin; simp [startS, bodyR, en, enO, openE, ord_ok, ord_neg, ord_pos, ord_ge, hfin, z4, show VQ 1900 p from h1, show VQ 1900 s from h4])
      | some r =>
        cases b2 with
        | none =>
          by_cases z3 : ltQ p r <;> (simp [openE, en, z3] at hfin; simp [startS, bodyR, en, enO, openE, ord_ok, ord_neg, ord_pos, ord_ge, hfin, z3, show VQ 1900 p from h1, show VQ 1900 r from h2])
        | some s =>
          by_cases z2 : ltQ s r <;> by_cases z3 : ltQ p r <;> by_cases z4 : ltQ p s <;> (simp [openE, en, z2, z3, z4] at hfin; simp [startS, bodyR, en, enO, openE, ord_ok, ord_neg, ord_pos, ord_ge, hfin, z2, z3, z4, show VQ 1900 p from h1, show VQ 1900 r from h2, show VQ 1900 s from h4])
    | some q =>
      cases a2 with
      | none =>
        cases b2 with
        | none =>
          by_cases z1 : ltQ p q <;> (simp [openE, en, z1] at hfin; simp [startS, bodyR, en, enO, openE, ord_ok, ord_neg, ord_pos, ord_ge, hfin, z1, show VQ 1900 p from h1, show VQ 1900 q from h3])
        | some s =>
          by_cases z1 : ltQ p q <;> by_cases z4 : ltQ p s <;> by_cases z6 : ltQ q s <;> (simp [openE, en, z1, z4, z6] at hfin; simp [startS, bodyR, en, enO, openE, ord_ok, ord_neg, ord_pos, ord_ge, hfin, z1, z4, z6, show VQ 1900 p from h1, show VQ 1900 q from h3, show VQ 1900 s from h4])
      | some r =>
        cases b2 with
        | none =>
          by_cases z1 : ltQ p q <;> by_cases z3 : ltQ p r <;> by_cases z5 : ltQ q r <;> (simp [openE, en, z1, z3, z5] at hfin; simp [startS, bodyR, en, enO, openE, ord_ok, ord_neg, ord_pos, ord_ge, hfin, z1, z3, z5, show VQ 1900 p from h1, show VQ 1900 q from h3, show VQ 1900 r from h2])
        | some s =>
          by_cases z1 : ltQ p q <;> by_cases z2 : ltQ s r <;> by_cases z3 : ltQ p r <;> by_cases z4 : ltQ p s <;> by_cases z5 : ltQ q r <;> by_cases z6 : ltQ q s <;> (simp [openE, en, z1, z2, z3, z4, z5, z6] at hfin; simp [startS, bodyR, en, enO, openE, ord_ok, ord_neg, ord_pos, ord_ge, hfin, z1, z2, z3, z4, z5, z6, show VQ 1900 p from h1, show VQ 1900 q from h3, show VQ 1900 r from h2, show VQ 1900 s from h4])
end K06
end

section
set_option Elab.async false
set_option linter.all false
set_option maxRecDepth 100000
set_option maxHeartbeats 4000000
set_option autoImplicit false
/-! K06R: the law's judges. -/
namespace K06
open PySem PySem.Spec PyProof.Rows L2 DL SX
theorem lord_ok {p q : Q2} (hp : VQ 1900 p) (hq : VQ 1900 q) : m__law_order [pr p, pr q] = pure (.int (ordQ p q)) := law_order_ok hp.s1 hp.s2 hq.s1 hq.s2 (by omega)
theorem below_ok {x y : Option Q2} (hx : VO 1900 x) (hy : VO 1900 y) : m__law_below [en x, en y] = pure (.bl (below x y)) := runB_pure rfl fun ω => by
  unfold s__law_below
  cases x with
  | none => simp [startS, bodyR, en, below]
  | some p =>
    cases y with
    | none => simp [startS, bodyR, en, below]
    | some q => simp [startS, bodyR, en, below, lord_ok hx hy, ord_le]
theorem above_ok {x y : Option Q2} (hx : VO 1900 x) (hy : VO 1900 y) : m__law_above [en x, en y] = pure (.bl (above x y)) := runB_pure rfl fun ω => by
  unfold s__law_above
  cases x with
  | none => simp [startS, bodyR, en, above]
  | some p =>
    cases y with
    | none => simp [startS, bodyR, en, above]
    | some q => simp [startS, bodyR, en, above, lord_ok hx hy, ord_ge]
theorem law_hull_ok {a b : E2} (ha : VE 1900 a) (hb : VE 1900 b) : m__law_hull [enp a, enp b] = pure (enp (hullE a b)) := runB_pure rfl fun ω => by
  unfold s__law_hull
  have e1 := below_ok ha.lo hb.lo
  have e2 := above_ok ha.hi hb.hi
  cases z1 : below a.1 b.1 <;> cases z2 : above a.2 b.2 <;> rw [z1] at e1 <;> rw [z2] at e2 <;> simp [startS, bodyR, ix_e0, ix_e1, e1, e2, hullE, z1, z2] <;> rfl
def enPO : Option E2 → D
  | none => .non
  | some a => enp a
theorem law_shared_ok {a b : E2} (ha : VE 1900 a) (hb : VE 1900 b) : m__law_shared [enp a, enp b] = pure (enPO (sharedE a b)) := runB_pure rfl fun ω => by
  unfold s__law_shared
  have e1 := below_ok ha.lo hb.lo
  have e2 := above_ok ha.hi hb.hi
  obtain ⟨v1, v2⟩ := meet_VO ha hb
  have key : ∀ x y : Option Q2, VO 1900 x → VO 1900 y → bodyR (match (match (cEv [] (cAnd (cBin isNotD (eVar 2) (eC .non)) (cAnd (cBin isNotD (eVar 3) (eC .non)) (cBin geD (eCall m__law_order (aCons (eVar 2) (aCons (eVar 3) aNil))) (eC (.int 0))))) (fun b => if b then (sRet [] (eC .non)) else sNil) [.val (enp a), .val (enp b), .val (en x), .val (en y)] ω) with | .nx ρ' ω' => sRet [] (eTup (aCons (eVar 2) (aCons (eVar 3) aNil))) ρ' ω' | r => r) with | r => r) = .ok (enPO (if openE (x, y) then some (x, y) else none)) ω := fun x y hx hy => by
    cases x with
    | none => cases y <;> simp [bodyR, en, openE, enPO, enp]
    | some p =>
      cases y with
      | none => simp [bodyR, en, openE, enPO, enp]
      | some q => by_cases z : ltQ p q <;> simp [bodyR, en, openE, enPO, enp, lord_ok hx hy, ord_ge, z]
  have k2 := key _ _ v1 v2
  have em : ((meet a b).1, (meet a b).2) = meet a b := rfl
  rw [em] at k2
  cases z1 : below a.1 b.1 <;> cases z2 : above a.2 b.2 <;> rw [z1] at e1 <;> rw [z2] at e2 <;> simp [meet, z1, z2] at k2 <;> simp [startS, bodyR, ix_e0, ix_e1, e1, e2, sharedE, meet, z1, z2] <;> exact k2
theorem whole_int (n : Int) : m__law_whole [.int n] = pure (.bl true) := runB_pure rfl fun _ => rfl
theorem law_pair_ok {k : Nat} {q : Q2} (h : VQ k q) : m__law_pair [pr q] = pure (.bl true) := runB_pure rfl fun ω => by
  unfold s__law_pair
  have e1 : isK Tb (.ty "tuple") (pr q) = some true := rfl
  have e2 : lenO [pr q] = some (.int 2) := rfl
  have e3 : neD (.int 2) (.int 2) = some false := by rw [ne_int]; rfl
  have hp : (1 : Int) ≤ q.2 := by have := h.pos; omega
  have eg : m__law_gcd [.int q.1, .int q.2] = pure (.int 1) := by rw [law_gcd_ok, h.cop]; rfl
  have e4 : eqD (.int 1) (.int 1) = some true := by rw [eq_int]; rfl
  simp [startS, bodyR, e1, e2, e3, whole_int, hp, eg, e4]
@[simp] theorem free_st (a : E2) : D.free (st a) = false := rfl
theorem ne_pr (p q : Q2) : neD (pr p) (pr q) = some (!decide (p = q)) := by
  show (eqD _ _).map _ = _
  rw [eq_pr]; rfl
theorem right_ok {a : E2} (h : VE 1900 a) : m__law_right [st a, enp a] = pure (.bl true) := runB_pure rfl fun ω => by
  unfold s__law_right
  have e1 : isK Tb (.own "Stretch") (st a) = some true := rfl
  have e2 : isK Tb (.ty "str") (.str (S (wr a))) = some true := rfl
  have ew := law_written_ok (Nat.le_refl _) h.lo h.hi
  have ee : eqD (.str (S (wr a))) (.str (S (wr a))) = some true := by rw [eq_S]; simp
  have h1 := h.lo
  have h2 := h.hi
  obtain ⟨x, y⟩ := a
  cases x with
  | none =>
    cases y with
    | none => simp [startS, bodyR, e1, e2, ew, ee, ix_e0, ix_e1, forS, en, tgT, tgsCons, tgsNil]
    | some q => simp [startS, bodyR, e1, e2, ew, ee, ix_e0, ix_e1, forS, en, tgT, tgsCons, tgsNil, law_pair_ok (show VQ 1900 q from h2), ne_pr]
  | some p =>
    cases y with
    | none => simp [startS, bodyR, e1, e2, ew, ee, ix_e0, ix_e1, forS, en, tgT, tgsCons, tgsNil, law_pair_ok (show VQ 1900 p from h1), ne_pr]
    | some q => simp [startS, bodyR, e1, e2, ew, ee, ix_e0, ix_e1, forS, en, tgT, tgsCons, tgsNil, law_pair_ok (show VQ 1900 q from h2), law_pair_ok (show VQ 1900 p from h1), ne_pr]
theorem truth_ok (b : Bool) : m__law_truth [.bl b, .bl b] = pure (.bl true) := runB_pure rfl fun ω => by cases b <;> rfl
end K06
end

section
set_option Elab.async false
set_option linter.all false
set_option maxRecDepth 100000
set_option maxHeartbeats 4000000
set_option autoImplicit false
/-! K06X: two stretches, three stretches, members. -/
namespace K06
open PySem PySem.Spec PyProof.Rows L2 DL SX
@[simp] theorem ob_w (a : E2) : isObj "Stretch" "within" (st a) = some () := rfl
@[simp] theorem ob_h (a : E2) : isObj "Stretch" "hull" (st a) = some () := rfl
@[simp] theorem ob_s (a : E2) : isObj "Stretch" "shared" (st a) = some () := rfl
@[simp] theorem is_st_non (a : E2) : isND (st a) .non = some false := rfl
@[simp] theorem is_enp_non (a : E2) : isND (enp a) .non = some false := rfl
@[simp] theorem isn_enp_non (a : E2) : isNotD (enp a) .non = some true := rfl
theorem eqO_st (a b : E2) : eqO Tb "Stretch" m_Stretch___eq__ (st a) (st b) = pure (.bl (decide (a = b))) := by
  have e : eqO Tb "Stretch" m_Stretch___eq__ (st a) (st b) = (m_Stretch___eq__ [st a, st b]).nox := rfl
  rw [e, eq_ok]; rfl
theorem eqO_sts (a : E2) (z : Str) : eqO Tb "Stretch" m_Stretch___eq__ (st a) (.str z) = pure (.bl false) := by
  have e : eqO Tb "Stretch" m_Stretch___eq__ (st a) (.str z) = (m_Stretch___eq__ [st a, .str z]).nox := rfl
  rw [e, eq_str]; rfl
/-- an end, as plain data -/
def pe : Option Q2 → PyData
  | none => .none
  | some q => .tuple [.int q.1, .int q.2]
theorem pyd_en (o : Option Q2) : pyd (en o) = some (pe o) := by cases o <;> rfl
theorem shaped_en (o : Option Q2) : SeqAt.shaped (pe o) = true := by cases o <;> rfl
theorem eqv_en (x y : Option Q2) : PyData.eqv (pe x) (pe y) = decide (x = y) := by
  have e := eq_en x y
  have e2 : eqD (en x) (en y) = eqP (en x) (en y) := by cases x <;> rfl
  rw [e2] at e
  unfold eqP at e
  rw [pyd_en, pyd_en] at e
  dsimp only at e
  rw [if_pos ⟨shaped_en x, shaped_en y⟩] at e
  exact Option.some.inj e
theorem shaped_enp (a : E2) : SeqAt.shaped (.tuple [pe a.1, pe a.2]) = true := by
  obtain ⟨x, y⟩ := a
  cases x <;> cases y <;> rfl
theorem eq_enp (a b : E2) : eqD (enp a) (enp b) = some (decide (a = b)) := by
  have p : ∀ a : E2, pyd (enp a) = some (.tuple [pe a.1, pe a.2]) := fun a => by
    show (pydL [en a.1, en a.2]).map PyData.tuple = _
    show (((pyd (en a.1)).bind fun p => ((pyd (en a.2)).bind fun q => (some []).map fun ps => q :: ps).map fun ps => p :: ps)).map PyData.tuple = _
    rw [pyd_en, pyd_en]; rfl
  show eqP (enp a) (enp b) = _
  unfold eqP
  rw [p, p]
  dsimp only
  rw [if_pos ⟨shaped_enp a, shaped_enp b⟩]
  have e : PyData.eqv (.tuple [pe a.1, pe a.2]) (.tuple [pe b.1, pe b.2]) = (PyData.eqv (pe a.1) (pe b.1) && (PyData.eqv (pe a.2) (pe b.2) && true)) := by
    simp [PyData.eqv, PyData.eqvAll]
  rw [e, eqv_en, eqv_en]
  obtain ⟨x, y⟩ := a
  obtain ⟨z, w⟩ := b
  by_cases h1 : x = z <;> by_cases h2 : y = w <;> simp [h1, h2]
theorem two_right_ok {a b : E2} (ha : VE 1900 a) (hb : VE 1900 b) : m__law_two_right [st a, st b, enp a, enp b] = pure (.bl true) := runB_pure rfl fun ω => by
  unfold s__law_two_right
  have e1 := below_ok hb.lo ha.lo
  have e2 := above_ok hb.hi ha.hi
  have e3 := within_ok ha hb
  have e4 := hull_ok ha hb
  have e5 := law_hull_ok ha hb
  have e6 := right_ok (hull_VE ha hb)
  have e7 := shared_ok ha hb
  have e8 := law_shared_ok ha hb
  have hin : (eAnd (eCall m__law_below (aCons (eIx (eVar 3) (eC (.int 0))) (aCons (eIx (eVar 2) (eC (.int 0))) aNil))) (eCall m__law_above (aCons (eIx (eVar 3) (eC (.int 1))) (aCons (eIx (eVar 2) (eC (.int 1))) aNil)))) [.val (st a), .val (st b), .val (enp a), .val (enp b), .no, .no, .no] = pure (.bl (below b.1 a.1 && above b.2 a.2)) := by
    cases z : below b.1 a.1 <;> rw [z] at e1 <;> simp [ix_e0, ix_e1, e1, e2]
  cases hs : sharedE a b with
  | none =>
    rw [hs] at e7 e8
    simp only [k_seq, k_asg, k_ev, startS, List.map_cons, List.map_nil, List.length_cons, List.length_nil, List.cons_append, List.nil_append, vis_cons, vis_nil, vis_val, vis_no, List.replicate, hin]
    simp [bodyR, e3, e4, e5, e6, e7, e8, truth_ok, eqO_st, eq_enp, enO, enPO]
  | some c =>
    rw [hs] at e7 e8
    have e9 := right_ok (shared_VE ha hb hs)
    simp only [k_seq, k_asg, k_ev, startS, List.map_cons, List.map_nil, List.length_cons, List.length_nil, List.cons_append, List.nil_append, vis_cons, vis_nil, vis_val, vis_no, List.replicate, hin]
    simp [bodyR, e3, e4, e5, e6, e7, e8, e9, truth_ok, eqO_st, eq_enp, enO, enPO]

noncomputable def s_turn : SM :=
     (sSeq (sAsg [] (eIf (cBin eqD (eVar 2) (eC (.int 0))) (eTup (aCons (eC (.int 0)) (aCons (eC (.int 1)) (aCons (eC (.int 2)) aNil)))) (eTup (aCons (eC (.int 2)) (aCons (eC (.int 1)) (aCons (eC (.int 0)) aNil))))) (tgT 3 (tgsCons (tgN 5) (tgsCons (tgN 6) (tgsCons (tgN 7) tgsNil)))))
     (sSeq (sAsg [] (eCall m__law_hull (aCons (eCall m__law_hull (aCons (eIx (eVar 1) (eVar 5)) (aCons (eIx (eVar 1) (eVar 6)) aNil))) (aCons (eIx (eVar 1) (eVar 7)) aNil))) (tgN 3))
     (sSeq (sIf [] (cNot (cVal (eCall m__law_right (aCons (eMeth "Stretch" "hull" m_Stretch_hull (eMeth "Stretch" "hull" m_Stretch_hull (eIx (eVar 0) (eVar 5)) (aCons (eIx (eVar 0) (eVar 6)) aNil)) (aCons (eIx (eVar 0) (eVar 7)) aNil)) (aCons (eVar 3) aNil)))))
      (sRet [] (eC (.bl false)))
      sNil)
     (sSeq (sAsg [] (eCall m__law_shared (aCons (eIx (eVar 1) (eVar 5)) (aCons (eIx (eVar 1) (eVar 6)) aNil))) (tgN 4))
     (sIf [] (cBin isNotD (eVar 4) (eC .non))
      (sSeq (sPar [] (aCons (eMeth "Stretch" "shared" m_Stretch_shared (eMeth "Stretch" "shared" m_Stretch_shared (eIx (eVar 0) (eVar 5)) (aCons (eIx (eVar 0) (eVar 6)) aNil)) (aCons (eIx (eVar 0) (eVar 7)) aNil)) (aCons (eCall m__law_shared (aCons (eVar 4) (aCons (eIx (eVar 1) (eVar 7)) aNil))) aNil)) (tg2 8 9))
      (sIf [] (cNot (cIf (cBin isND (eVar 9) (eC .non)) (cBin isND (eVar 8) (eC .non)) (cVal (eCall m__law_right (aCons (eVar 8) (aCons (eVar 9) aNil))))))
       (sRet [] (eC (.bl false)))
       sNil))
      sNil)))))
theorem atI_nat {α : Type} (xs : List α) (n : Nat) : atI xs (n : Int) = xs[n]? := by
  unfold atI ixN
  rw [if_pos (by omega)]
  by_cases h : n < xs.length
  · rw [if_pos (by omega)]; simp
  · rw [if_neg (by omega)]
    simp only [Option.bind_none]
    rw [List.getElem?_eq_none (by omega)]
theorem ixL (xs : List D) (n : Nat) : ixM (.lst xs) (.int n) = ofOpt xs[n]? := by
  show ofOpt (atI xs (n : Int)) = _
  rw [atI_nat]
@[simp] theorem ixL0 (x : D) (r : List D) : ixM (.lst (x :: r)) (.int 0) = pure x := ixL (x :: r) 0
@[simp] theorem ixL1 (x y : D) (r : List D) : ixM (.lst (x :: y :: r)) (.int 1) = pure y := ixL (x :: y :: r) 1
@[simp] theorem ixL2 (x y z : D) (r : List D) : ixM (.lst (x :: y :: z :: r)) (.int 2) = pure z := ixL (x :: y :: z :: r) 2
/-- one turn: x, y, z are the stretches at i, j, l -/
theorem turn_ok {x y z : E2} (hx : VE 1900 x) (hy : VE 1900 y) (hz : VE 1900 z) {mk es : D} {t i j l : Int} {s3 s4 s5 s6 s7 s8 s9 : Sl} (hf : mk.free = false) (he : es.free = false) (ht : (if t = 0 then ((0, 1, 2) : Int × Int × Int) else (2, 1, 0)) = (i, j, l))
    (m1 : ixM mk (.int i) = pure (st x)) (m2 : ixM mk (.int j) = pure (st y)) (m3 : ixM mk (.int l) = pure (st z)) (n1 : ixM es (.int i) = pure (enp x)) (n2 : ixM es (.int j) = pure (enp y)) (n3 : ixM es (.int l) = pure (enp z)) (ω : Om)
    (o3 : s3.frz false = s3) (o4 : s4.frz false = s4) (o8 : s8.frz false = s8) (o9 : s9.frz false = s9) (v3 : s3.vis false = s3) (v4 : s4.vis false = s4) (v8 : s8.vis false = s8) (v9 : s9.vis false = s9) :
    ∃ r3 r4 r5 r6 r7 r8 r9, s_turn [.val mk, .val es, .val (.int t), s3, s4, s5, s6, s7, s8, s9] ω = .nx [.val mk, .val es, .val (.int t), .val r3, .val r4, .val r5, .val r6, .val r7, r8, r9] ω ∧ (r8.frz false = r8 ∧ r9.frz false = r9 ∧ r8.vis false = r8 ∧ r9.vis false = r9) := by
  have hxy := hull_VE hx hy
  have e1 := law_hull_ok hx hy
  have e2 := law_hull_ok hxy hz
  have e3 := hull_ok hx hy
  have e4 := hull_ok hxy hz
  have e5 := right_ok (hull_VE hxy hz)
  have e6 := law_shared_ok hx hy
  have e7 := shared_ok hx hy
  have et : (if t = 0 then (pure (.tup [.int 0, .int 1, .int 2]) : M D) else pure (.tup [.int 2, .int 1, .int 0])) = pure (.tup [.int i, .int j, .int l]) := by
    by_cases h : t = 0
    · rw [if_pos h] at ht ⊢
      cases ht; rfl
    · rw [if_neg h] at ht ⊢
      cases ht; rfl
  unfold s_turn
  cases hs : sharedE x y with
  | none =>
    rw [hs] at e6 e7
    simp [eq_int, et, m1, m2, m3, n1, n2, n3, e1, e2, e3, e4, e5, e6, e7, tgT, tgsCons, tgsNil, enPO, enO, o3, o4, o8, o9, v3, v4, v8, v9]
    refine ⟨_, _, _, _, _, _, _, ⟨rfl, rfl, rfl, rfl, rfl, rfl, rfl⟩, ?_⟩
    simp [o8, o9, v8, v9]
  | some d =>
    rw [hs] at e6 e7
    have hd := shared_VE hx hy hs
    have e8 := law_shared_ok hd hz
    have e9 := shared_ok hd hz
    cases hs2 : sharedE d z with
    | none =>
      rw [hs2] at e8 e9
      simp [eq_int, et, m1, m2, m3, n1, n2, n3, e1, e2, e3, e4, e5, e6, e7, e8, e9, tgT, tgsCons, tgsNil, enPO, enO, o3, o4, o8, o9, v3, v4, v8, v9]
      refine ⟨_, _, _, _, _, _, _, ⟨rfl, rfl, rfl, rfl, rfl, rfl, rfl⟩, ?_⟩
      simp
    | some f =>
      rw [hs2] at e8 e9
      have e10 := right_ok (shared_VE hd hz hs2)
      simp [eq_int, et, m1, m2, m3, n1, n2, n3, e1, e2, e3, e4, e5, e6, e7, e8, e9, e10, tgT, tgsCons, tgsNil, enPO, enO, o3, o4, o8, o9, v3, v4, v8, v9]
      refine ⟨_, _, _, _, _, _, _, ⟨rfl, rfl, rfl, rfl, rfl, rfl, rfl⟩, ?_⟩
      simp
theorem three_right_ok {a b c : E2} {r : List E2} (ha : VE 1900 a) (hb : VE 1900 b) (hc : VE 1900 c) : m__law_three_right [.lst ((a :: b :: c :: r).map st), .lst ((a :: b :: c :: r).map enp)] = pure (.bl true) := runB_pure rfl fun ω => by
  have hu : s__law_three_right = sSeq (sFor [] (iRng1 (aCons (eC (.int 2)) aNil)) (tgN 2) s_turn) (sRet [] (eC (.bl true))) := rfl
  rw [hu]
  have er : rngO [.int 2] = some [.int 0, .int 1] := rfl
  obtain ⟨r3, r4, r5, r6, r7, r8, r9, h1, h2, h3, h4, h5⟩ := turn_ok (mk := .lst ((a :: b :: c :: r).map st)) (es := .lst ((a :: b :: c :: r).map enp)) (t := 0) (i := 0) (j := 1) (l := 2) (s3 := .no) (s4 := .no) (s5 := .no) (s6 := .no) (s7 := .no) (s8 := .no) (s9 := .no) ha hb hc rfl rfl rfl (by simp) (by simp) (by simp) (by simp) (by simp) (by simp) ω rfl rfl rfl rfl rfl rfl rfl rfl
  obtain ⟨q3, q4, q5, q6, q7, q8, q9, g1, _⟩ := turn_ok (mk := .lst ((a :: b :: c :: r).map st)) (es := .lst ((a :: b :: c :: r).map enp)) (t := 1) (i := 2) (j := 1) (l := 0) (s3 := .val r3) (s4 := .val r4) (s5 := .val r5) (s6 := .val r6) (s7 := .val r7) (s8 := r8) (s9 := r9) hc hb ha rfl rfl rfl (by simp) (by simp) (by simp) (by simp) (by simp) (by simp) ω rfl rfl h2 h3 rfl rfl h4 h5
  simp only [List.map_cons] at h1 g1
  simp [startS, bodyR, er, forS, h1, g1]
/-! ### members -/
theorem taken_pr {q : Q2} (h : LQ q) : m_taken [pr q] = pure (pr (lowQ q.1 q.2)) := runB_pure rfl fun ω => by
  unfold s_taken
  have h1 := isf_en (o := some q) (q := q) (fun p e => by cases e; exact h) rfl
  have h2 := pair_of_en (o := some q) (q := q) (fun p e => by cases e; exact h) rfl
  simp [startS, bodyR, h1, h2]
theorem taken_int (n : Int) : m_taken [.int n] = pure (pr (n, 1)) := runB_pure rfl fun ω => by
  unfold s_taken
  simp [startS, bodyR, isf_int, pair_of_int]
theorem law_holds_ok {a : E2} {q : Q2} (h : VE 1900 a) (hq1 : Sm 1900 q.1) (hq2 : Sm 1900 q.2) : m__law_holds [enp a, pr q] = pure (.bl (holdsE a q)) := runB_pure rfl fun ω => by
  unfold s__law_holds
  have h1 := h.lo
  have h2 := h.hi
  obtain ⟨x, y⟩ := a
  have o1 : ∀ p, x = some p → m__law_order [pr p, pr q] = pure (.int (ordQ p q)) := fun p e => by subst e; exact law_order_ok (VQ.s1 h1) (VQ.s2 h1) hq1 hq2 (by omega)
  have o2 : ∀ p, y = some p → m__law_order [pr q, pr p] = pure (.int (ordQ q p)) := fun p e => by subst e; exact law_order_ok hq1 hq2 (VQ.s1 h2) (VQ.s2 h2) (by omega)
  cases x with
  | none =>
    cases y with
    | none => simp [startS, bodyR, ix_e0, ix_e1, en, holdsE]
    | some r => simp [startS, bodyR, ix_e0, ix_e1, en, holdsE, o2, ord_neg]
  | some p =>
    cases y with
    | none => by_cases z : ltQ p q <;> simp [startS, bodyR, ix_e0, ix_e1, en, holdsE, o1, ord_ge, z]
    | some r => by_cases z : ltQ p q <;> simp [startS, bodyR, ix_e0, ix_e1, en, holdsE, o1, o2, ord_ge, ord_neg, z]
theorem contains_q {a : E2} {x : D} {q : Q2} (h : VE 1900 a) (hx : m_taken [x] = pure (pr q)) (hq1 : Sm 1900 q.1) (hq2 : Sm 1900 q.2) : m_Stretch___contains__ [st a, x] = pure (.bl (holdsE a q)) := runB_pure rfl fun ω => by
  unfold s_Stretch___contains__
  have h1 := h.lo
  have h2 := h.hi
  obtain ⟨x', y⟩ := a
  have o1 : ∀ p, x' = some p → m_order_of [pr q, pr p] = pure (.int (ordQ q p)) := fun p e => by subst e; exact order_of_ok hq1 hq2 (VQ.s1 h1) (VQ.s2 h1) (by omega)
  have o2 : ∀ p, y = some p → m_order_of [pr q, pr p] = pure (.int (ordQ q p)) := fun p e => by subst e; exact order_of_ok hq1 hq2 (VQ.s1 h2) (VQ.s2 h2) (by omega)
  cases x' with
  | none =>
    cases y with
    | none => simp [startS, bodyR, hx, en, holdsE]
    | some r => simp [startS, bodyR, hx, en, holdsE, o2, ord_neg]
  | some p =>
    cases y with
    | none => by_cases z : ltQ p q <;> simp [startS, bodyR, hx, en, holdsE, o1, ord_le, z]
    | some r => by_cases z : ltQ p q <;> simp [startS, bodyR, hx, en, holdsE, o1, o2, ord_le, ord_neg, z]
theorem holds_low {a : E2} {q : Q2} (hq : 0 < q.2) : holdsE a (lowQ q.1 q.2) = holdsE a q := by
  obtain ⟨x, y⟩ := a
  cases x <;> cases y <;> simp [holdsE, ltQ_low_left hq, ltQ_low_right hq]
/-- x in the stretch: as the law reckons -/
theorem in_pr {a : E2} {q : Q2} (h : VE 1900 a) (hq : LQ q) : inO "Stretch" m_Stretch___contains__ (pr q) (st a) = pure (.bl (holdsE a q)) := by
  have v := lowQ_valid (a := q.1) (b := q.2) (by have := hq.1; omega) hq.2.1 hq.2.2
  have e : inO "Stretch" m_Stretch___contains__ (pr q) (st a) = (m_Stretch___contains__ [st a, pr q] >>= fun z => ofOpt ((asB z).map D.bl)) := rfl
  rw [e, contains_q h (taken_pr hq) v.s1 v.s2, holds_low hq.1]
  rfl
theorem in_int {a : E2} {n : Int} (h : VE 1900 a) (hn : Sm 1900 n) : inO "Stretch" m_Stretch___contains__ (.int n) (st a) = pure (.bl (holdsE a (n, 1))) := by
  have e : inO "Stretch" m_Stretch___contains__ (.int n) (st a) = (m_Stretch___contains__ [st a, .int n] >>= fun z => ofOpt ((asB z).map D.bl)) := rfl
  rw [e, contains_q h (taken_int n) hn (show Sm 1900 1 by unfold Sm; decide +kernel)]
  rfl
end K06
end

section
set_option Elab.async false
set_option linter.all false
set_option maxRecDepth 100000
set_option maxHeartbeats 4000000
set_option autoImplicit false
/-! K06D: drawing. -/
namespace K06
open PySem PySem.Spec PyProof.Rows L2 DL SX
theorem draw_ok {T : Nat} {ω : Om} {n : Int} (h : BX T ω) (hT : T ≤ 1000000) (hn : 0 < n) (hn2 : n ≤ 1000000) : ∃ r ω', (m__law_draw [.box, .int n]).run ω = .ok (.int r) ω' ∧ 0 ≤ r ∧ r < n ∧ BX (T + 1) ω' := by
  obtain ⟨is, b1, b2, b3, b4, b5, rfl, h1, h2, h3, h4, h5, h6, h7, h8⟩ := h.ex
  have hn0 : n ≠ 0 := by omega
  have hns : Sm 9000 n := (sm_rg (n := 2000000) (k := 21) (by omega) (by omega) (by decide)).mono (by decide)
  have hrun : ∀ ω, (m__law_draw [.box, .int n]).run ω = bodyR (s__law_draw (startS 4 [.box, .int n]) ω) := fun ω => rfl
  have p18 : powD (.int 10) (.int 18) = some (.int 1000000000000000000) := by
    have e : powI 10 18 = some (10 ^ 18) := by
      unfold powI
      rw [if_pos ⟨by decide, by decide⟩]
      rfl
    show (powI 10 18).map D.int = _
    rw [e]; rfl
  have p3 : ∀ c3 : Int, 0 ≤ c3 → c3 < 2147483563 → powD (.int c3) (.int 3) = some (.int (c3 ^ 3)) := fun c3 g1 g2 => by
    show (powI c3 3).map D.int = _
    unfold powI
    have := nb_le (sm_rg (n := 2147483563) (k := 31) g1 g2 (by decide))
    rw [if_pos ⟨by decide, by omega⟩]
    rfl
  have m4 : mulD (.int (b4 + 1)) (.int 1299709) = some (.int ((b4 + 1) * 1299709)) := mul_ok (k := 21) (l := 21) (sm_rg (n := 2000000) (by omega) (by omega) (by decide)) (by unfold Sm; decide)
  have md : ∀ a : Int, modD (.int a) (.int 2147483563) = some (.int (a.fmod 2147483563)) := fun a => mod_ok (by decide)
  have mm : ∀ a : Int, modD (.int a) (.int 2147483399) = some (.int (a.fmod 2147483399)) := fun a => mod_ok (by decide)
  have m8 : ∀ a : Int, modD (.int a) (.int 8011) = some (.int (a.fmod 8011)) := fun a => mod_ok (by decide)
  have f8 : ∀ a : Int, fdivD (.int a) (.int 89) = some (.int (a.fdiv 89)) := fun a => fdiv_ok (by decide) ((show Sm 8 89 by unfold Sm; decide).mono (by decide))
  have m7 : ∀ a : Int, mulD (.int (a.fmod 8011)) (.int 73) = some (.int (a.fmod 8011 * 73)) := fun a => mul_ok (k := 20) (l := 20) (by
    obtain ⟨x, y⟩ := fmod_rg (a := a) (n := 8011) (by decide)
    exact sm_rg (n := 8011) x y (by decide)) (by unfold Sm; decide)
  have mn : ∀ a : Int, modD (.int a) (.int n) = some (.int (a.fmod n)) := fun a => mod_ok hn0
  have m3 : mulD (.int b3) (.int 40014) = some (.int (b3 * 40014)) := mul_ok (k := 31) (l := 20) (sm_rg (n := 2147483563) h5 h6 (by decide)) (by unfold Sm; decide)
  have mi : ∀ a : Int, mulD (.int (a.fmod 2147483399)) (.int 30011) = some (.int (a.fmod 2147483399 * 30011)) := fun a => mul_ok (k := 31) (l := 20) (by
    obtain ⟨x, y⟩ := fmod_rg (a := a) (n := 2147483399) (by decide)
    exact sm_rg (n := 2147483399) x y (by decide)) (by unfold Sm; decide)
  rcases Int.lt_or_eq_of_le h2 with hb2 | hb2
  · -- C
    have e1 := mod_ok (i := b2) hn0
    have e2 := fdiv_ok (i := b2) hn0 hns
    obtain ⟨r1, r2⟩ := fmod_rg (a := b2) hn
    have hz : ¬ b2 = 0 := by omega
    obtain ⟨q1, q2⟩ := fdiv_sm h2 hn h3
    by_cases z : 1 < b5
    · refine ⟨b2.fmod n, (is, [b1, b2.fdiv n, b3, b4 + 1, b5 - 1]), ?_, r1, r2, ⟨is, _, _, _, _, _, rfl, h1, q1, q2, h4, h5, h6, by omega, by omega⟩⟩
      rw [hrun]
      unfold s__law_draw
      simp [startS, bodyR, bx0, bx1, bx2, bx3, bx4, bx5, k_boxK, eq_intD, e1, e2, hz, hb2, z]
    · refine ⟨b2.fmod n, (is, [b1, 0, b3, b4 + 1, b5 - 1]), ?_, r1, r2, ⟨is, _, _, _, _, _, rfl, h1, by omega, sm0, h4, h5, h6, by omega, by omega⟩⟩
      rw [hrun]
      unfold s__law_draw
      simp [startS, bodyR, bx0, bx1, bx2, bx3, bx4, bx5, k_boxK, eq_intD, e1, e2, hz, hb2, z]
  · have hb2 : b2 = 0 := hb2.symm
    subst hb2
    by_cases hl : b1 < (is.length : Int)
    · obtain ⟨j, rfl⟩ : ∃ j : Nat, b1 = j := ⟨b1.toNat, by omega⟩
      have hj : j < is.length := by omega
      have hit : ixM (.lst (is.map D.int)) (.int j) = pure (.int is[j]) := by
        rw [ixL, List.getElem?_map, List.getElem?_eq_getElem hj]; rfl
      have hsm := h4 _ (List.getElem_mem hj)
      by_cases hg : (1000000000000000000 : Int) ≤ is[j]
      · -- A
        have hp : (0 : Int) < is[j] := by omega
        obtain ⟨r1, r2⟩ := fmod_rg (a := is[j]) hn
        obtain ⟨q1, q2⟩ := fdiv_sm (by omega) hn hsm
        have e2 := fdiv_ok (i := is[j]) hn0 hns
        refine ⟨is[j].fmod n, (is, [j + 1, is[j].fdiv n, b3, b4 + 1, 59]), ?_, r1, r2, ⟨is, _, _, _, _, _, rfl, by omega, q1, q2, h4, h5, h6, by omega, by omega⟩⟩
        rw [hrun]
        unfold s__law_draw
        simp [startS, bodyR, bx0, bx1, bx2, bx3, bx4, bx5, k_boxK, eq_intD, p18, mn, e2, hl, hj, hit, hg, hp]
      · -- B
        obtain ⟨c3, hc3⟩ : ∃ c3, c3 = (b3 * 40014 + is[j].fmod 2147483399 * 30011 + 211).fmod 2147483563 := ⟨_, rfl⟩
        obtain ⟨g1, g2⟩ := fmod_rg (a := b3 * 40014 + is[j].fmod 2147483399 * 30011 + 211) (n := 2147483563) (by decide)
        rw [← hc3] at g1 g2
        obtain ⟨d3, hd3⟩ : ∃ d3, d3 = (c3 ^ 3 + (b4 + 1) * 1299709 + 70001).fmod 2147483563 := ⟨_, rfl⟩
        obtain ⟨g3, g4⟩ := fmod_rg (a := c3 ^ 3 + (b4 + 1) * 1299709 + 70001) (n := 2147483563) (by decide)
        rw [← hd3] at g3 g4
        obtain ⟨r1, r2⟩ := fmod_rg (a := d3.fdiv 89 + d3.fmod 8011 * 73) hn
        refine ⟨(d3.fdiv 89 + d3.fmod 8011 * 73).fmod n, (is, [j + 1, 0, d3, b4 + 1, b5]), ?_, r1, r2, ⟨is, _, _, _, _, _, rfl, by omega, by omega, sm0, h4, g3, g4, by omega, by omega⟩⟩
        have mdc := md (b3 * 40014 + is[j].fmod 2147483399 * 30011 + 211)
        have mdd := md (c3 ^ 3 + (b4 + 1) * 1299709 + 70001)
        rw [← hc3] at mdc
        rw [← hd3] at mdd
        rw [hrun]
        unfold s__law_draw
        simp [startS, bodyR, bx0, bx1, bx2, bx3, bx4, bx5, k_boxK, eq_intD, p18, mn, hl, hj, hit, hg, m3, mi, mm, mdc, p3 c3 g1 g2, m4, mdd, m8, f8, m7]
    · -- D
      obtain ⟨d3, hd3⟩ : ∃ d3, d3 = (b3 ^ 3 + (b4 + 1) * 1299709 + 70001).fmod 2147483563 := ⟨_, rfl⟩
      obtain ⟨g3, g4⟩ := fmod_rg (a := b3 ^ 3 + (b4 + 1) * 1299709 + 70001) (n := 2147483563) (by decide)
      rw [← hd3] at g3 g4
      obtain ⟨r1, r2⟩ := fmod_rg (a := d3.fdiv 89 + d3.fmod 8011 * 73) hn
      refine ⟨(d3.fdiv 89 + d3.fmod 8011 * 73).fmod n, (is, [b1, 0, d3, b4 + 1, b5]), ?_, r1, r2, ⟨is, _, _, _, _, _, rfl, by omega, by omega, sm0, h4, g3, g4, by omega, by omega⟩⟩
      have mdd := md (b3 ^ 3 + (b4 + 1) * 1299709 + 70001)
      rw [← hd3] at mdd
      rw [hrun]
      unfold s__law_draw
      simp [startS, bodyR, bx0, bx1, bx2, bx3, bx4, bx5, k_boxK, eq_intD, mn, hl, p3 b3 h5 h6, m4, mdd, m8, f8, m7]
theorem from_ok {T : Nat} {ω : Om} {a b : Int} (h : BX T ω) (hT : T ≤ 1000000) (hab : a ≤ b) (hn2 : b - a + 1 ≤ 1000000) : ∃ r ω', (m__law_from [.box, .int a, .int b]).run ω = .ok (.int r) ω' ∧ a ≤ r ∧ r ≤ b ∧ BX (T + 1) ω' := by
  obtain ⟨r, ω', e, h1, h2, h3⟩ := draw_ok (n := b - a + 1) h hT (by omega) hn2
  refine ⟨a + r, ω', ?_, by omega, by omega, h3⟩
  have hrun : (m__law_from [.box, .int a, .int b]).run ω = bodyR (s__law_from (startS 3 [.box, .int a, .int b]) ω) := rfl
  rw [hrun]
  unfold s__law_from
  simp [startS, bodyR, M.bind_run, e]
theorem of_ok {T : Nat} {ω : Om} {xs : List D} (h : BX T ω) (hT : T ≤ 1000000) (hx : xs ≠ []) (hx2 : xs.length ≤ 1000000) : ∃ x ω', (m__law_of [.box, .lst xs]).run ω = .ok x ω' ∧ x ∈ xs ∧ BX (T + 1) ω' := by
  have hl : 0 < xs.length := List.length_pos_iff.mpr hx
  obtain ⟨r, ω', e, h1, h2, h3⟩ := draw_ok (n := xs.length) h hT (by omega) (by omega)
  obtain ⟨j, rfl⟩ : ∃ j : Nat, r = j := ⟨r.toNat, by omega⟩
  have hj : j < xs.length := by omega
  refine ⟨xs[j], ω', ?_, List.getElem_mem hj, h3⟩
  have hrun : (m__law_of [.box, .lst xs]).run ω = bodyR (s__law_of (startS 2 [.box, .lst xs]) ω) := rfl
  have hit : ixM (.lst xs) (.int j) = pure xs[j] := by
    rw [ixL, List.getElem?_eq_getElem hj]; rfl
  rw [hrun]
  unfold s__law_of
  simp [startS, bodyR, M.bind_run, e, hit]
end K06
end

section
set_option Elab.async false
set_option linter.all false
set_option maxRecDepth 100000
set_option maxHeartbeats 4000000
set_option autoImplicit false
/-! K06N: the box, the numbers and the ends that are drawn. -/
namespace K06
open PySem PySem.Spec PyProof.Rows L2 DL SX
theorem map_run {α β : Type} (f : α → β) (m : M α) (ω : Om) : (f <$> m).run ω = match m.run ω with | .ok a ω' => .ok (f a) ω' | .exc c fs ω' => .exc c fs ω' | .bad => .bad := rfl
theorem k_app (i : Nat) (B : List Nat) (f : Sls → M D) (ρ : Sls) (ω : Om) : sApp i B f ρ ω = match ρ[i]? with | some (.own (.lst _)) => sEv B f (appK i) ρ ω | _ => .bad := rfl
theorem k_appK (i : Nat) (y : D) (ρ : Sls) (ω : Om) : appK i y ρ ω = match (ρ[i]? : Option Sl) with | some (.own (.lst ds)) => if ds.length < 16000000 then .nx (ρ.set i (.own (.lst (ds ++ [y])))) ω else .bad | _ => .bad := rfl
theorem law_plus_ok {a b : Q2} (h1 : Sm 2000 a.1) (h2 : Sm 2000 a.2) (h3 : Sm 2000 b.1) (h4 : Sm 2000 b.2) (ha : 0 < a.2) (hb : 0 < b.2) : m__law_plus [pr a, pr b] = pure (pr (lowQ (a.1 * b.2 + b.1 * a.2) (a.2 * b.2))) := runB_pure rfl fun ω => by
  unfold s__law_plus
  have e1 := mul_ok h1 h4
  have e2 := mul_ok h3 h2
  have e3 := mul_ok h2 h4
  have hp : a.2 * b.2 ≠ 0 := by
    have := Int.mul_pos ha hb
    omega
  have e4 := law_low_ok (a := a.1 * b.2 + b.1 * a.2) hp ((h2.mul h4).mono (by decide))
  simp [startS, bodyR, e1, e2, e3, e4]
/-- the box of a script -/
theorem box_loop : ∀ (xs : List Int) (m : Int) (s0 : D) (s2 : Sl), 0 ≤ m → m < 2147483563 → ∃ m' s2', 0 ≤ m' ∧ m' < 2147483563 ∧ ∀ ω,
    forS (tgN 2) (sAsg [] (eBin modD (eCB intO (aCons (eBin addD (eBin addD (eBin mulD (eVar 1) (eC (.int 40692))) (eBin modD (eCB intO (aCons (eVar 2) aNil)) (eC (.int 2147483399)))) (eC (.int 1021))) aNil)) (eC (.int 2147483563))) (tgN 1)) (xs.map D.int) [.val s0, .val (.int m), s2] ω = .nx [.val s0, .val (.int m'), s2'] ω
  | [], m, s0, s2, h1, h2 => ⟨m, s2, h1, h2, fun _ => rfl⟩
  | x :: xs, m, s0, s2, h1, h2 => by
    have e1 : mulD (.int m) (.int 40692) = some (.int (m * 40692)) := mul_ok (k := 31) (l := 20) (sm_rg (n := 2147483563) h1 h2 (by decide)) (by unfold Sm; decide)
    have e2 : modD (.int x) (.int 2147483399) = some (.int (x.fmod 2147483399)) := mod_ok (by decide)
    have e3 : modD (.int (m * 40692 + x.fmod 2147483399 + 1021)) (.int 2147483563) = some (.int ((m * 40692 + x.fmod 2147483399 + 1021).fmod 2147483563)) := mod_ok (by decide)
    obtain ⟨g1, g2⟩ := fmod_rg (a := m * 40692 + x.fmod 2147483399 + 1021) (n := 2147483563) (by decide)
    generalize (m * 40692 + x.fmod 2147483399 + 1021).fmod 2147483563 = m2 at *
    obtain ⟨m', s2', q1, q2, q3⟩ := box_loop xs m2 s0 (.val (.int x)) g1 g2
    refine ⟨m', s2', q1, q2, fun ω => ?_⟩
    rw [List.map_cons]
    unfold forS
    simp [e1, e2, e3]
    exact q3 ω
theorem box_ok (ns : List Int) : ∃ m, 0 ≤ m ∧ m < 2147483563 ∧ m__law_box [.scr ns] = pure (.lst [.lst ((ns.take 63).map D.int), .int 0, .int 0, .int m, .int 0, .int 0]) := by
  have hc : slD (.scr ns) none (some 63) = some (.lst ((ns.take 63).map D.int)) := by
    show some (D.lst ((cutL ns none (some 63)).map D.int)) = _
    unfold cutL
    have e : HT.sIx ns.length ns.length (some 63) = min 63 ns.length := HT.sIx_nat ns.length ns.length 63
    rw [HT.sIx_none, e, List.drop_zero, Nat.sub_zero]
    congr 3
    by_cases z : 63 ≤ ns.length
    · rw [Nat.min_eq_left z]
    · rw [Nat.min_eq_right (by omega), List.take_of_length_le (by omega), List.take_of_length_le (by omega)]
  obtain ⟨m, s2, h1, h2, h3⟩ := box_loop (ns.take 63) 17795 (.scr ns) .no (by decide) (by decide)
  refine ⟨m, h1, h2, runB_pure rfl fun ω => ?_⟩
  generalize ns.take 63 = is at *
  unfold s__law_box
  have hf : D.free (.scr ns) = false := rfl
  simp [startS, bodyR, hc, h3]
/-! ### the numbers -/
noncomputable def s_num : SM := (sSeq (sAsg [] (eCall m__law_low (aCons (eCall m__law_from (aCons (eVar 0) (aCons (eUn negD (eC (.int 9))) (aCons (eC (.int 9)) aNil)))) (aCons (eCall m__law_from (aCons (eVar 0) (aCons (eC (.int 1)) (aCons (eC (.int 4)) aNil)))) aNil))) (tgN 3))
     (sSeq (sApp 1 [] (eVar 3))
     (sIf [] (cBin eqD (eCall m__law_draw (aCons (eVar 0) (aCons (eC (.int 2)) aNil))) (eC (.int 0)))
      (sApp 1 [] (eCall m__law_plus (aCons (eVar 3) (aCons (eTup (aCons (eCall m__law_of (aCons (eVar 0) (aCons (eLst (aCons (eC (.int 1)) (aCons (eUn negD (eC (.int 1))) (aCons (eC (.int 2)) aNil)))) aNil))) (aCons (eBin powD (eBin powD (eC (.int 10)) (eC (.int 45))) (eC (.int 2))) aNil))) aNil))))
      sNil)))
theorem p45 : powD (.int 10) (.int 45) = some (.int (10 ^ 45)) := by
  have e : powI 10 45 = some (10 ^ 45) := by
    unfold powI
    rw [if_pos ⟨by decide, by decide⟩]
    rfl
  show (powI 10 45).map D.int = _
  rw [e]; rfl
theorem p90 : powD (.int (10 ^ 45)) (.int 2) = some (.int ((10 ^ 45) ^ 2)) := by
  have e : powI (10 ^ 45) 2 = some ((10 ^ 45) ^ 2) := by
    unfold powI
    have := nb_le (i := 10 ^ 45) (k := 200) (by unfold Sm; decide +kernel)
    rw [if_pos ⟨by decide, by omega⟩]
    rfl
  show (powI (10 ^ 45) 2).map D.int = _
  rw [e]; rfl
theorem num_turn {T : Nat} {ω : Om} {qs : List Q2} {s2 s3 : Sl} (h : BX T ω) (hT : T ≤ 100000) (hq : ∀ q ∈ qs, VQ 400 q) (hl : qs.length ≤ 1000) (v2 : s2.vis false = s2) (f2 : s2.frz false = s2) (v3 : s3.vis false = s3) (f3 : s3.frz false = s3) : ∃ qs' q ω', (∀ q ∈ qs', VQ 400 q) ∧ qs' ≠ [] ∧ qs'.length ≤ 2 ∧ BX (T + 4) ω' ∧
    s_num [.val .box, .own (.lst (qs.map pr)), s2, s3] ω = .nx [.val .box, .own (.lst ((qs ++ qs').map pr)), s2, .val (pr q)] ω' := by
  obtain ⟨x, ω1, e1, x1, x2, b1⟩ := from_ok (a := -9) (b := 9) h (by omega) (by decide) (by decide)
  obtain ⟨y, ω2, e2, y1, y2, b2⟩ := from_ok (a := 1) (b := 4) b1 (by omega) (by decide) (by decide)
  have sx : Sm 10 x := by unfold Sm; omega
  have sy : Sm 10 y := by unfold Sm; omega
  have v := lowQ_valid (k := 10) (a := x) (b := y) (by omega) sx sy
  have e3 := law_low_ok (a := x) (b := y) (by omega) (sy.mono (by decide))
  obtain ⟨r, ω3, e4, r1, r2, b3⟩ := draw_ok (n := 2) b2 (by omega) (by decide) (by decide)
  have hlen : qs.length < 16000000 := by omega
  by_cases z : r = 0
  · obtain ⟨w, ω4, e5, w1, b4⟩ := of_ok (xs := [.int 1, .int (-1), .int 2]) b3 (by omega) (by simp) (by decide)
    obtain ⟨u, hu, su⟩ : ∃ u : Int, w = .int u ∧ Sm 10 u := by
      simp at w1
      rcases w1 with rfl | rfl | rfl
      · exact ⟨1, rfl, by unfold Sm; decide⟩
      · exact ⟨-1, rfl, by unfold Sm; decide⟩
      · exact ⟨2, rfl, by unfold Sm; decide⟩
    subst hu
    have s90 : Sm 300 ((10 ^ 45) ^ 2) := by unfold Sm; decide +kernel
    have ep := law_plus_ok (a := lowQ x y) (b := (u, (10 ^ 45) ^ 2)) (v.s1.mono (by decide)) (v.s2.mono (by decide)) (su.mono (by decide)) (s90.mono (by decide)) v.pos (show (0 : Int) < (10 ^ 45) ^ 2 by decide)
    have hp : (lowQ x y).2 * (10 ^ 45) ^ 2 ≠ 0 := by
      have := Int.mul_pos v.pos (show (0 : Int) < (10 ^ 45) ^ 2 by decide)
      omega
    have v2' := lowQ_valid (k := 400) (a := (lowQ x y).1 * (10 ^ 45) ^ 2 + u * (lowQ x y).2) (b := (lowQ x y).2 * (10 ^ 45) ^ 2) hp ((Sm.add (k := 310) (v.s1.mul s90) ((su.mul v.s2).mono (by decide))).mono (by decide)) ((v.s2.mul s90).mono (by decide))
    refine ⟨[lowQ x y, lowQ ((lowQ x y).1 * (10 ^ 45) ^ 2 + u * (lowQ x y).2) ((lowQ x y).2 * (10 ^ 45) ^ 2)], lowQ x y, ω4, ?_, by simp, by simp, b4, ?_⟩
    · intro q hq'
      simp only [List.mem_cons, List.not_mem_nil, or_false] at hq'
      rcases hq' with rfl | rfl
      · exact v.mono (by decide)
      · exact v2'
    · have epr : ∀ a b : Int, D.tup [.int a, .int b] = pr (a, b) := fun _ _ => rfl
      generalize lowQ ((lowQ x y).1 * (10 ^ 45) ^ 2 + u * (lowQ x y).2) ((lowQ x y).2 * (10 ^ 45) ^ 2) = q2 at *
      have hlen2 : qs.length + 1 < 16000000 := by omega
      have p45' := p45
      have p90' := p90
      generalize (10 : Int) ^ 45 = t45 at *
      generalize t45 ^ 2 = t90 at *
      unfold s_num
      simp only [List.map_append]
      simp [M.bind_run, e1, e2, e3, k_app, k_appK, hlen, e4, z, eq_intD, e5, p45', p90', epr, ep, hlen2, v2, f2, v3, f3]
  · refine ⟨[lowQ x y], lowQ x y, ω3, ?_, by simp, by simp, b3.mono (by omega), ?_⟩
    · intro q hq'
      simp only [List.mem_cons, List.not_mem_nil, or_false] at hq'
      subst hq'
      exact v.mono (by decide)
    · unfold s_num
      simp only [List.map_append]
      simp [M.bind_run, e1, e2, e3, k_app, k_appK, hlen, e4, z, eq_intD, v2, f2, v3, f3]
theorem num_loop : ∀ (xs : List D) {T : Nat} {ω : Om} {qs : List Q2} {s2 s3 : Sl}, BX T ω → T + 4 * xs.length ≤ 100000 → (∀ q ∈ qs, VQ 400 q) → qs.length + 2 * xs.length ≤ 1000 → s3.vis false = s3 → s3.frz false = s3 → (xs ≠ [] ∨ qs ≠ []) →
    ∃ qs' s2' s3' ω', (∀ q ∈ qs', VQ 400 q) ∧ qs' ≠ [] ∧ qs'.length ≤ qs.length + 2 * xs.length ∧ BX (T + 4 * xs.length) ω' ∧ forS (tgN 2) s_num xs [.val .box, .own (.lst (qs.map pr)), s2, s3] ω = .nx [.val .box, .own (.lst (qs'.map pr)), s2', s3'] ω'
  | [], T, ω, qs, s2, s3, h, hT, hq, hl, v3, f3, hne => ⟨qs, s2, s3, ω, hq, hne.resolve_left (fun z => z rfl), by simp, h, rfl⟩
  | x :: xs, T, ω, qs, s2, s3, h, hT, hq, hl, v3, f3, hne => by
    have hl1 : (x :: xs).length = xs.length + 1 := rfl
    obtain ⟨qs1, q, ω1, a1, a2, a3, a4, a5⟩ := num_turn (s2 := .val x) (s3 := s3) h (by omega) hq (by omega) rfl rfl v3 f3
    have h2 : ∀ q ∈ qs ++ qs1, VQ 400 q := fun q hm => (List.mem_append.mp hm).elim (hq q) (a1 q)
    obtain ⟨qs', s2', s3', ω', b1, b2, b3, b4, b5⟩ := num_loop xs (qs := qs ++ qs1) (s2 := .val x) (s3 := .val (pr q)) a4 (by omega) h2 (by rw [List.length_append]; omega) rfl rfl (.inr (by simp [a2]))
    refine ⟨qs', s2', s3', ω', b1, b2, ?_, b4.mono (by omega), ?_⟩
    · rw [List.length_append] at b3; omega
    · unfold forS
      simp only [tg_n, Option.bind_some, sets_cons, sets_nil]
      rw [if_pos (by simp)]
      show (match s_num [.val .box, .own (.lst (qs.map pr)), .val x, s3] ω with | .nx ρ' ω' => forS (tgN 2) s_num xs ρ' ω' | .ct ρ' ω' => forS (tgN 2) s_num xs ρ' ω' | .bk ρ' ω' => .nx ρ' ω' | r => r) = _
      rw [a5]
      exact b5
theorem numbers_ok {T : Nat} {ω : Om} (h : BX T ω) (hT : T ≤ 10000) : ∃ qs ω', (∀ q ∈ qs, VQ 400 q) ∧ qs ≠ [] ∧ qs.length ≤ 10 ∧ BX (T + 20) ω' ∧ (m__law_numbers [.box]).run ω = .ok (.lst (qs.map pr)) ω' := by
  have er : rngO [.int 5] = some [.int 0, .int 1, .int 2, .int 3, .int 4] := rfl
  obtain ⟨qs, s2, s3, ω', a1, a2, a3, a4, a5⟩ := num_loop [.int 0, .int 1, .int 2, .int 3, .int 4] (qs := []) (s2 := .no) (s3 := .no) h (by simp; omega) (fun q hm => by cases hm) (by simp) rfl rfl (.inl (by simp))
  refine ⟨qs, ω', a1, a2, by simpa using a3, by simpa using a4, ?_⟩
  have hrun : (m__law_numbers [.box]).run ω = bodyR (s__law_numbers (startS 4 [.box]) ω) := rfl
  have hu : s__law_numbers = sSeq (sNew 1 [] (lsz aNil)) (sSeq (sFor [] (iRng1 (aCons (eC (.int 5)) aNil)) (tgN 2) s_num) (sRet [1] (eVar 1))) := rfl
  rw [hrun, hu]
  simp only [List.map_nil] at a5
  simp [startS, bodyR, er, a5]
/-! ### the ends -/
theorem ends_ok {T : Nat} {ω : Om} {qs : List Q2} (h : BX T ω) (hT : T ≤ 10000) (hq : ∀ q ∈ qs, VQ 400 q) (hne : qs ≠ []) (hl : qs.length ≤ 100) : ∃ a ω', VE 400 a ∧ BX (T + 4) ω' ∧ (m__law_ends [.box, .lst (qs.map pr)]).run ω = .ok (enp a) ω' := by
  obtain ⟨x, ω1, e1, x1, b1⟩ := of_ok (xs := qs.map pr) h (by omega) (by simpa using hne) (by simp; omega)
  obtain ⟨y, ω2, e2, y1, b2⟩ := of_ok (xs := qs.map pr) b1 (by omega) (by simpa using hne) (by simp; omega)
  obtain ⟨p, hp, rfl⟩ := List.mem_map.mp x1
  obtain ⟨q, hqm, rfl⟩ := List.mem_map.mp y1
  have vp := hq p hp
  have vq := hq q hqm
  obtain ⟨r, ω3, e3, r1, r2, b3⟩ := draw_ok (n := 8) b2 (by omega) (by decide) (by decide)
  obtain ⟨t, ω4, e4, t1, t2, b4⟩ := draw_ok (n := 2) b3 (by omega) (by decide) (by decide)
  have hrun : (m__law_ends [.box, .lst (qs.map pr)]).run ω = bodyR (s__law_ends (startS 5 [.box, .lst (qs.map pr)]) ω) := rfl
  have eo := lord_ok (vp.mono (show 400 ≤ 1900 by decide)) (vq.mono (show 400 ≤ 1900 by decide))
  by_cases c1 : r = 0 ∨ p = q
  · by_cases c2 : t = 0
    · refine ⟨(some p, none), ω4, ⟨vp, trivial, fun _ _ _ z => by cases z⟩, b4.mono (by omega), ?_⟩
      rw [hrun]; unfold s__law_ends
      rcases c1 with c1 | c1
      · simp [startS, bodyR, M.bind_run, map_run, e1, e2, e3, e4, eq_intD, c1, c2]; rfl
      · subst c1
        by_cases c3 : r = 0 <;> simp [startS, bodyR, M.bind_run, map_run, e1, e2, e3, e4, eq_intD, eq_pr, c3, c2] <;> rfl
    · refine ⟨(none, some q), ω4, ⟨trivial, vq, fun _ _ z => by cases z⟩, b4.mono (by omega), ?_⟩
      rw [hrun]; unfold s__law_ends
      rcases c1 with c1 | c1
      · simp [startS, bodyR, M.bind_run, map_run, e1, e2, e3, e4, eq_intD, c1, c2]; rfl
      · subst c1
        by_cases c3 : r = 0 <;> simp [startS, bodyR, M.bind_run, map_run, e1, e2, e3, e4, eq_intD, eq_pr, c3, c2] <;> rfl
  · have c3 : ¬ r = 0 := fun z => c1 (.inl z)
    have c4 : ¬ p = q := fun z => c1 (.inr z)
    by_cases c5 : r = 1
    · refine ⟨(none, none), ω3, ⟨trivial, trivial, fun _ _ z => by cases z⟩, b3.mono (by omega), ?_⟩
      rw [hrun]; unfold s__law_ends
      simp [startS, bodyR, M.bind_run, map_run, e1, e2, e3, eq_intD, eq_pr, c3, c4, c5]; rfl
    · by_cases c6 : ltQ p q
      · refine ⟨(some p, some q), ω3, ⟨vp, vq, fun a b za zb => by cases za; cases zb; exact c6⟩, b3.mono (by omega), ?_⟩
        rw [hrun]; unfold s__law_ends
        simp [startS, bodyR, M.bind_run, map_run, e1, e2, e3, eq_intD, eq_pr, c3, c4, c5, eo, ord_neg, c6]; rfl
      · have c7 : ltQ q p := by
          by_cases z : ltQ q p
          · exact z
          · exact absurd (vq_eq' vp vq c6 z) c4
        refine ⟨(some q, some p), ω3, ⟨vq, vp, fun a b za zb => by cases za; cases zb; exact c7⟩, b3.mono (by omega), ?_⟩
        rw [hrun]; unfold s__law_ends
        simp [startS, bodyR, M.bind_run, map_run, e1, e2, e3, eq_intD, eq_pr, c3, c4, c5, eo, ord_neg, c6]; rfl
end K06
end

section
set_option Elab.async false
set_option linter.all false
set_option maxRecDepth 100000
set_option maxHeartbeats 4000000
set_option autoImplicit false
/-! K06F: what is refused. -/
namespace K06
open PySem PySem.Spec PyProof.Rows L2 DL SX
theorem runB_raise {n N : Nat} {s : SM} {ds : List D} {c : Str} {fs : List (Str × D)} (h : ds.length = n) (e : ∀ ω, bodyR (s (startS N ds) ω) = .exc c fs ω) : runB n N s ds = M.raise c fs := M.ext fun ω => by
  show (if ds.length = n then bodyR (s (startS N ds) ω) else .bad) = _
  rw [if_pos h, e]
  rfl
@[simp] theorem run_raise {α : Type} (c : Str) (fs : List (Str × D)) (ω : Om) : (M.raise c fs : M α).run ω = .exc c fs ω := rfl
theorem map_raise {α β : Type} (f : α → β) (c : Str) (fs : List (Str × D)) : (f <$> (M.raise c fs : M α)) = M.raise c fs := rfl
def noNum (x : D) : List (Str × D) := [("why", .str "this is no number"), ("text", x)]
theorem taken_bad {x : D} (h : m_is_fraction [x] = pure (.bl false)) : m_taken [x] = M.raise "BadNumber" (noNum x) := runB_raise rfl fun ω => by
  unfold s_taken
  cases e : x.free <;> simp [startS, bodyR, h, e, noNum]
theorem contains_bad {a : E2} {x : D} (h : m_is_fraction [x] = pure (.bl false)) : m_Stretch___contains__ [st a, x] = M.raise "BadNumber" (noNum x) := runB_raise rfl fun ω => by
  unfold s_Stretch___contains__
  simp [startS, bodyR, taken_bad h]
theorem in_bad {a : E2} {x : D} (h : m_is_fraction [x] = pure (.bl false)) : inO "Stretch" m_Stretch___contains__ x (st a) = M.raise "BadNumber" (noNum x) := by
  have e : inO "Stretch" m_Stretch___contains__ x (st a) = (m_Stretch___contains__ [st a, x] >>= fun z => ofOpt ((asB z).map D.bl)) := rfl
  rw [e, contains_bad h]
  rfl
theorem k_try (i : Nat) (c : Str) (cs : List Str) (s t : SM) (ρ : Sls) (ω : Om) : sTry i c cs s t ρ ω = match s ρ ω with
  | .ex c' fs ρ' ω' => if c' = c then (if i < ρ'.length then clrR i (t (ρ'.set i (.exn fs)) ω') else .bad) else if cs.contains c' then .ex c' fs ρ' ω' else .bad
  | q => q := rfl
theorem has_text : (["text", "why"] : List Str).contains "text" = true := rfl
theorem look_num (x : D) : List.lookup ("text" : Str) (noNum x) = some x := rfl
theorem eq_bl (b : Bool) : eqD (.bl b) (.bl b) = some true := by cases b <;> rfl
theorem value_one {a : E2} {x : D} {b : Bool} (ω : Om) (h1 : m_is_fraction [x] = pure (.bl false)) (h2 : eqO Tb "Stretch" m_Stretch___eq__ x x = pure (.bl true)) (h3 : isND x (.bl false) = some b) :
    ∃ r, (sSeq (sTry 3 "BadNumber" ["BadStretch"]
     (sAsg [] (eBinM (inO "Stretch" m_Stretch___contains__) (eVar 2) (eVar 1)) (tgN 4))
     (sRet [] (eAnd (eBinM (eqO Tb "Stretch" m_Stretch___eq__) (eXf 3 "text" ["text", "why"]) (eVar 2)) (eBin (fun x y => (eqD x y).map D.bl) (eBin (fun x y => (isND x y).map D.bl) (eVar 2) (eC (.bl false))) (eBin (fun x y => (isND x y).map D.bl) (eXf 3 "text" ["text", "why"]) (eC (.bl false)))))))
    (sRet [] (eBin (fun x y => (isND x y).map D.bl) (eVar 4) (eC .non)))) [.val .box, .val (st a), .val x, .no, .no] ω = r ∧ bodyR r = .ok (.bl true) ω := ⟨_, rfl, by
  simp [k_try, in_bad h1, clrR, has_text, look_num, h2, h3, eq_bl, bodyR]⟩
theorem value_refused_ok {T : Nat} {ω : Om} {a : E2} (h : BX T ω) (hT : T ≤ 100000) : ∃ ω', (m__law_value_refused [.box, st a]).run ω = .ok (.bl true) ω' := by
  obtain ⟨x, ω1, e1, x1, b1⟩ := of_ok (xs := [.non, .str "0", .bl false, .tup [.int 0, .int 0], .tup [.int 1, .int (-2)], .lst [.int 0, .int 1], .tup [.int 1, .int 2, .int 3], .tup [.bl true, .int 2], st a]) h (by omega) (by simp) (by simp)
  have key : ∃ b, m_is_fraction [x] = pure (.bl false) ∧ eqO Tb "Stretch" m_Stretch___eq__ x x = pure (.bl true) ∧ isND x (.bl false) = some b := by
    simp only [List.mem_cons, List.not_mem_nil, or_false] at x1
    rcases x1 with rfl | rfl | rfl | rfl | rfl | rfl | rfl | rfl | rfl
    · exact ⟨_, isf_non, rfl, rfl⟩
    · exact ⟨_, isf_str _, rfl, rfl⟩
    · exact ⟨_, isf_bl _, rfl, rfl⟩
    · exact ⟨_, isf_pr (0, 0), rfl, rfl⟩
    · exact ⟨_, isf_pr (1, -2), rfl, rfl⟩
    · exact ⟨_, isf_lst _, rfl, rfl⟩
    · exact ⟨_, isf_t3 _ _ _, rfl, rfl⟩
    · exact ⟨_, isf_tb _ _, rfl, rfl⟩
    · exact ⟨_, isf_obj _ _, by rw [eqO_st]; simp, rfl⟩
  obtain ⟨b, k1, k2, k3⟩ := key
  obtain ⟨r, r1, r2⟩ := value_one (a := a) ω1 k1 k2 k3
  refine ⟨ω1, ?_⟩
  have hrun : (m__law_value_refused [.box, st a]).run ω = bodyR (s__law_value_refused (startS 5 [.box, st a]) ω) := rfl
  rw [hrun]
  unfold s__law_value_refused
  rw [k_seq]
  have hfirst : ∀ (f : Sls → M D), (f (vis [] (startS 5 [.box, st a]))).run ω = .ok x ω1 → sAsg [] f (tgN 2) (startS 5 [.box, st a]) ω = .nx [.val .box, .val (st a), .val x, .no, .no] ω1 := fun f e => by
    rw [k_asg, k_ev, e]
    cases hx : x.free <;> simp [hx, startS]
  rw [hfirst _ (by simp [startS, M.bind_run, map_run, e1])]
  rw [← r2, ← r1]
end K06
end

section
set_option Elab.async false
set_option linter.all false
set_option maxRecDepth 100000
set_option maxHeartbeats 4000000
set_option autoImplicit false
/-! K06G: texts that are refused. -/
namespace K06
open PySem PySem.Spec PyProof.Rows L2 DL SX
open TL (numL tl)
/-! ### readings that fail -/
theorem ends_len {parts : List (List Nat)} (hne : parts ≠ []) (hsp : ∀ p ∈ parts, 32 ∉ p) (hl : (TL.joinL [32] parts).length ≤ 16000000) (h4 : parts.length ≠ 4) : m__ends_from [.str (S (TL.joinL [32] parts))] = pure .non := runB_pure rfl fun ω => by
  unfold s__ends_from
  have hs := split_sp hne hsp hl
  have hz : ¬ (parts.length : Int) = 4 := by omega
  have h5 : neD (.int (parts.length : Int)) (.int 4) = some true := by rw [ne_int, decide_eq_false hz]; rfl
  rw [c_sp]
  simp [startS, bodyR, asS, hs, h5]
/-- four words of which the first is no bracket -/
theorem ends_first {a b c d : List Nat} (h : ∀ p ∈ [a, b, c, d], 32 ∉ p) (hl : (TL.joinL [32] [a, b, c, d]).length ≤ 16000000) (ha : a ≠ [40]) : m__ends_from [.str (S (TL.joinL [32] [a, b, c, d]))] = pure .non := runB_pure rfl fun ω => by
  unfold s__ends_from
  have hs := split_sp (by simp) h hl
  have e0 : ixM (.lst [.str (S a), .str (S b), .str (S c), .str (S d)]) (.int 0) = pure (.str (S a)) := rfl
  have n4 : neD (.int 4) (.int 4) = some false := by rw [ne_int]; rfl
  have n40 : neD (.str (S a)) (.str (S [40])) = some true := by rw [ne_S, decide_eq_false ha]; rfl
  rw [c_sp, c_open]
  simp [startS, bodyR, asS, hs, e0, n4, n40]
/-- the low end is no fraction -/
theorem ends_low {b c : List Nat} {y : D} (hb : 32 ∉ b) (hc : 32 ∉ c) (hl : b.length + c.length ≤ 15000000) (h1 : b ≠ [45]) (h2 : m_pair_from [.str (S b)] = pure .non) (h3 : (if c = [45] then (pure .non : M D) else m_pair_from [.str (S c)]) = pure y) : m__ends_from [.str (S (TL.joinL [32] [[40], b, c, [41]]))] = pure .non := runB_pure rfl fun ω => by
  unfold s__ends_from
  have hs := split_sp (parts := [[40], b, c, [41]]) (by simp) (by
    intro p hp
    simp at hp
    rcases hp with rfl | rfl | rfl | rfl
    · simp
    · exact hb
    · exact hc
    · simp) (by simp [TL.joinL]; omega)
  have hlen : lenO [.lst [.str (S [40]), .str (S b), .str (S c), .str (S [41])]] = some (.int 4) := rfl
  have e0 : ixM (.lst [.str (S [40]), .str (S b), .str (S c), .str (S [41])]) (.int 0) = pure (.str (S [40])) := rfl
  have e1 : ixM (.lst [.str (S [40]), .str (S b), .str (S c), .str (S [41])]) (.int 1) = pure (.str (S b)) := rfl
  have e2 : ixM (.lst [.str (S [40]), .str (S b), .str (S c), .str (S [41])]) (.int 2) = pure (.str (S c)) := rfl
  have e3 : ixM (.lst [.str (S [40]), .str (S b), .str (S c), .str (S [41])]) (.int 3) = pure (.str (S [41])) := rfl
  have n40 : neD (.str (S [40])) (.str (S [40])) = some false := by rw [ne_S]; rfl
  have n41 : neD (.str (S [41])) (.str (S [41])) = some false := by rw [ne_S]; rfl
  have n4 : neD (.int 4) (.int 4) = some false := by rw [ne_int]; rfl
  have q1 : eqD (.str (S b)) (.str (S [45])) = some false := by rw [eq_S, decide_eq_false h1]
  have q2 : eqD (.str (S c)) (.str (S [45])) = some (decide (c = [45])) := eq_S _ _
  have q3 : neD (.str (S b)) (.str (S [45])) = some true := by rw [ne_S, decide_eq_false h1]; rfl
  rw [c_sp, c_open, c_close, c_minus]
  by_cases z : c = [45]
  · subst z
    rw [if_pos rfl] at h3
    simp [startS, bodyR, asS, hs, hlen, e0, e1, e2, e3, n40, n41, n4, q1, q2, q3, h2]
  · rw [if_neg z] at h3
    cases hy : y.free <;> simp [startS, bodyR, asS, hs, hlen, e0, e1, e2, e3, n40, n41, n4, q1, q2, q3, h2, h3, z, hy]
/-- the low end is not below the high one -/
theorem ends_order {p q : Q2} (hp : VQ 1900 p) (hq : VQ 1900 q) (h : ¬ ltQ p q) : m__ends_from [.str (S (TL.joinL [32] [[40], qtl p, qtl q, [41]]))] = pure .non := runB_pure rfl fun ω => by
  unfold s__ends_from
  have l1 := qtl_len hp.s1 hp.s2
  have l2 := qtl_len hq.s1 hq.s2
  have hs := split_sp (parts := [[40], qtl p, qtl q, [41]]) (by simp) (by
    intro x hx
    simp at hx
    rcases hx with rfl | rfl | rfl | rfl
    · simp
    · exact qtl_sp
    · exact qtl_sp
    · simp) (by simp [TL.joinL]; omega)
  have hlen : lenO [.lst [.str (S [40]), .str (S (qtl p)), .str (S (qtl q)), .str (S [41])]] = some (.int 4) := rfl
  have e0 : ixM (.lst [.str (S [40]), .str (S (qtl p)), .str (S (qtl q)), .str (S [41])]) (.int 0) = pure (.str (S [40])) := rfl
  have e1 : ixM (.lst [.str (S [40]), .str (S (qtl p)), .str (S (qtl q)), .str (S [41])]) (.int 1) = pure (.str (S (qtl p))) := rfl
  have e2 : ixM (.lst [.str (S [40]), .str (S (qtl p)), .str (S (qtl q)), .str (S [41])]) (.int 2) = pure (.str (S (qtl q))) := rfl
  have e3 : ixM (.lst [.str (S [40]), .str (S (qtl p)), .str (S (qtl q)), .str (S [41])]) (.int 3) = pure (.str (S [41])) := rfl
  have n40 : neD (.str (S [40])) (.str (S [40])) = some false := by rw [ne_S]; rfl
  have n41 : neD (.str (S [41])) (.str (S [41])) = some false := by rw [ne_S]; rfl
  have n4 : neD (.int 4) (.int 4) = some false := by rw [ne_int]; rfl
  have q1 := fun o => eq_dash o
  have r1 : eqD (.str (S (qtl p))) (.str (S [45])) = some false := eq_dash (some p)
  have r2 : eqD (.str (S (qtl q))) (.str (S [45])) = some false := eq_dash (some q)
  rw [c_sp, c_open, c_close, c_minus]
  simp [startS, bodyR, asS, hs, hlen, e0, e1, e2, e3, n40, n41, n4, r1, r2, pair_from_ok hp, pair_from_ok hq, ord_ok hp hq, ord_ge, h]
theorem from_zero : m_integer_from [.str (S [45, 48])] = pure .non := runB_pure rfl fun ω => by
  unfold s_integer_from
  have hd : NumText.AllDigits [48] := fun c hc => by rw [List.mem_singleton.mp hc]; omega
  obtain ⟨ea, ed⟩ := digits_ok hd (by simp)
  have e0 : startsO (S [45, 48]) [.str (S [45])] = some (.bl true) := by show some (D.bl (Txt.startswith (S [45, 48]) (S [45]))) = _; rw [starts_S]; rfl
  have e1 : slD (.str (S [45, 48])) (some 1) none = some (.str (S [48])) := by rw [sl_S _ _ (by simp)]; rfl
  have e2 : isasciiO (S [48]) [] = some (.bl true) := by show some (D.bl (Txt.isascii (S [48]))) = _; rw [ea]
  have e3 : isdigitO (S [48]) [] = some (.bl true) := by show some (D.bl (Txt.isdigit (S [48]))) = _; rw [ed]
  have e4 : ixM (.str (S [48])) (.int 0) = pure (.str (S [48])) := ix_S0 (by simp)
  have e5 : eqD (.str (S [48])) (.str (S [48])) = some true := by rw [eq_S]; rfl
  have e6 : neD (.str (S [45, 48])) (.str (S [48])) = some true := by rw [ne_S]; rfl
  rw [c_minus, c_zero]
  simp [startS, bodyR, asS, e0, e1, e2, e3, e4, e5, e6]
theorem pair_zero : m_pair_from [.str (S [45, 48])] = pure .non := runB_pure rfl fun ω => by
  unfold s_pair_from
  have e1 := part_no (a := [45, 48]) (by simp) (by simp)
  simp [startS, bodyR, asS, c_slash, e1, from_zero, tgT, tgsCons, tgsNil]
theorem pair_double {q : Q2} (h : VQ 1800 q) : m_pair_from [.str (S (zl (2 * q.1) ++ 47 :: zl (2 * q.2)))] = pure .non := runB_pure rfl fun ω => by
  unfold s_pair_from
  have s2 : Sm 2 2 := by unfold Sm; decide
  have h1 : Sm 1900 (2 * q.1) := (s2.mul h.s1).mono (by decide)
  have h2 : Sm 1900 (2 * q.2) := (s2.mul h.s2).mono (by decide)
  have l1 := zl_len h1
  have l2 := zl_len h2
  have e1 := part_sl (a := zl (2 * q.1)) (b := zl (2 * q.2)) (zl_free (.inl (by decide)) (by decide)) (by simp; omega)
  have e47 : eqD (.str (S [47])) (.str (S [])) = some false := by rw [eq_S]; rfl
  have hp := h.pos
  have e2 : ¬ 2 * q.2 < 2 := by omega
  have eg : gcdO [.int (2 * q.1), .int (2 * q.2)] = some (.int 2) := by
    show some (D.int ((Int.gcd (2 * q.1) (2 * q.2) : Nat) : Int)) = _
    rw [Int.gcd_mul_left, h.cop]; rfl
  have e11 : neD (.int 2) (.int 1) = some true := by rw [ne_int]; rfl
  simp [startS, bodyR, asS, c_slash, c_none, e1, integer_from_ok h1, integer_from_ok h2, e47, tgT, tgsCons, tgsNil, e2, eg, e11]
/-! ### making that fails -/
def noTx (x : D) : List (Str × D) := [("why", .str "this is no text of a stretch"), ("text", x)]
theorem runI_raise {c c' : Str} {n N : Nat} {s : SM} {ds : List D} {fs : List (Str × D)} (h : ds.length = n) (e : ∀ ω, initR (s (.own (.obj c [] []) :: startS (N - 1) ds) ω) = .exc c' fs ω) : runI c n N s ds = M.raise c' fs := M.ext fun ω => by
  show (if ds.length = n then initR (s (.own (.obj c [] []) :: startS (N - 1) ds) ω) else .bad) = _
  rw [if_pos h, e]
  rfl
theorem init_txt {z : Str} (h : m__ends_from [.str z] = pure .non) : m_Stretch_init [.str z] = M.raise "BadStretch" (noTx (.str z)) := runI_raise rfl fun ω => by
  unfold s_Stretch_init
  have e1 : isK Tb (.ty "str") (.str z) = some true := rfl
  simp [startS, initR, e1, h, noTx]
theorem init_other {x : D} (h : isK Tb (.ty "str") x = some false) : m_Stretch_init [x] = M.raise "BadStretch" (noTx x) := runI_raise rfl fun ω => by
  unfold s_Stretch_init
  cases e : x.free <;> simp [startS, initR, h, e, noTx]
def noEnds (w : String) (x y : D) : List (Str × D) := [("why", .str w), ("text", .tup [x, y])]
theorem of_order {p q : Q2} (hp : VQ 1900 p) (hq : VQ 1900 q) (h : ¬ ltQ p q) : m_stretch_of [pr p, pr q] = M.raise "BadStretch" (noEnds "the low end is not below the high one" (pr p) (pr q)) := runB_raise rfl fun ω => by
  unfold s_stretch_of
  have e1 := isf_en (o := some p) (q := p) (fun x e => by cases e; exact VQ.lq hp (Nat.le_refl _)) rfl
  have e2 := isf_en (o := some q) (q := q) (fun x e => by cases e; exact VQ.lq hq (Nat.le_refl _)) rfl
  have e3 := pair_of_en (o := some p) (q := p) (fun x e => by cases e; exact VQ.lq hp (Nat.le_refl _)) rfl
  have e4 := pair_of_en (o := some q) (q := q) (fun x e => by cases e; exact VQ.lq hq (Nat.le_refl _)) rfl
  rw [lowQ_self hp] at e3
  rw [lowQ_self hq] at e4
  simp [startS, bodyR, forS, e1, e2, e3, e4, ord_ok hp hq, ord_ge, h, noEnds]
/-- the first end is no number -/
theorem of_first {x y : D} (h1 : m_is_fraction [x] = pure (.bl false)) (h2 : isNotD x .non = some true) : m_stretch_of [x, y] = M.raise "BadStretch" (noEnds "an end is no number" x y) := runB_raise rfl fun ω => by
  unfold s_stretch_of
  cases e : x.free <;> cases e2 : y.free <;> simp [startS, bodyR, forS, h1, h2, e, e2, noEnds]
/-- the second end is no number -/
theorem of_second {x y : D} (h0 : isNotD x .non = some false ∨ (isNotD x .non = some true ∧ m_is_fraction [x] = pure (.bl true))) (h1 : m_is_fraction [y] = pure (.bl false)) (h2 : isNotD y .non = some true) : m_stretch_of [x, y] = M.raise "BadStretch" (noEnds "an end is no number" x y) := runB_raise rfl fun ω => by
  unfold s_stretch_of
  rcases h0 with h0 | ⟨h0, h3⟩
  · cases e : x.free <;> cases e2 : y.free <;> simp [startS, bodyR, forS, h1, h2, h0, e, e2, noEnds]
  · cases e : x.free <;> cases e2 : y.free <;> simp [startS, bodyR, forS, h1, h2, h0, h3, e, e2, noEnds]
end K06
end

section
set_option Elab.async false
set_option linter.all false
set_option maxRecDepth 100000
set_option maxHeartbeats 4000000
set_option autoImplicit false
/-! K06H: the law's wrong texts and ends. -/
namespace K06
open PySem PySem.Spec PyProof.Rows L2 DL SX
open TL (numL tl)
section
variable {ρ : Sls} {f1 f2 f3 f4 f5 : Sls → M D} {r : Sls → M (List D)} {a b c d e : List Nat} {x : D} {xs : List D}
theorem cat3 (h1 : f1 ρ = pure (.str (S a))) (h2 : f2 ρ = pure (.str (S b))) (h3 : f3 ρ = pure (.str (S c))) (hl : a.length + b.length + c.length ≤ 16000000) : eBin addD (eBin addD f1 f2) f3 ρ = pure (.str (S (a ++ b ++ c))) := by
  have e1 : addD (.str (S a)) (.str (S b)) = some (.str (S (a ++ b))) := add_S (by omega)
  have e2 : addD (.str (S (a ++ b))) (.str (S c)) = some (.str (S (a ++ b ++ c))) := add_S (by rw [List.length_append]; omega)
  simp only [r_bin, h1, h2, h3, pure_bind, e1, e2, ofOpt_some]
theorem cat5 (h1 : f1 ρ = pure (.str (S a))) (h2 : f2 ρ = pure (.str (S b))) (h3 : f3 ρ = pure (.str (S c))) (h4 : f4 ρ = pure (.str (S d))) (h5 : f5 ρ = pure (.str (S e))) (hl : a.length + b.length + c.length + d.length + e.length ≤ 16000000) :
    eBin addD (eBin addD (eBin addD (eBin addD f1 f2) f3) f4) f5 ρ = pure (.str (S (a ++ b ++ c ++ d ++ e))) := by
  have e1 := cat3 h1 h2 h3 (by omega)
  have e2 : addD (.str (S (a ++ b ++ c))) (.str (S d)) = some (.str (S (a ++ b ++ c ++ d))) := add_S (by simp only [List.length_append]; omega)
  have e3 : addD (.str (S (a ++ b ++ c ++ d))) (.str (S e)) = some (.str (S (a ++ b ++ c ++ d ++ e))) := add_S (by simp only [List.length_append]; omega)
  rw [r_bin, r_bin, e1]
  simp only [h4, h5, pure_bind, e2, e3, ofOpt_some]
theorem acons (h1 : f1 ρ = pure x) (h2 : r ρ = pure xs) : aCons f1 r ρ = pure (x :: xs) := by
  simp only [r_cons, h1, h2, pure_bind]
theorem lit {s : String} (h : s.toList.map Char.toNat = a := by rfl) : eC (.str s) ρ = pure (.str (S a)) := by
  rw [r_c, S_lit h]
end
theorem numL_lt {n c : Nat} (h : c ∈ numL n) : c < 128 := by have := TL.numL_digits n c h; omega
theorem zl_lt {n : Int} {c : Nat} (h : c ∈ zl n) : c < 128 := by
  unfold zl at h
  split at h
  · rcases List.mem_cons.mp h with z | z
    · omega
    · exact numL_lt z
  · exact numL_lt h
theorem qtl_lt {q : Q2} {c : Nat} (h : c ∈ qtl q) : c < 128 := by
  unfold qtl at h
  split at h
  · exact zl_lt h
  · rcases List.mem_append.mp h with z | z
    · exact zl_lt z
    · rcases List.mem_cons.mp z with z | z
      · omega
      · exact zl_lt z
theorem strOk_S {l : List Nat} (h : ∀ c ∈ l, c < 128) : PyData.strOk (S l) = true := by
  show l.toArray.all _ = true
  rw [List.all_toArray, List.all_eq_true]
  intro c hc
  exact decide_eq_true (by have := h c hc; omega)
theorem ne_one_str {z : Str} (h : PyData.strOk z = true) : neD (.lst [.str z]) (.lst [.str z]) = some false := by
  have hs : SeqAt.shaped (.list [.str z]) = true := by
    simp [SeqAt.shaped, PyData.canLay0, PyData.canLayAll0, h, PyData.depth, PyData.depthAll]
  have e : eqD (.lst [.str z]) (.lst [.str z]) = some true := by
    show (if SeqAt.shaped (.list [.str z]) = true ∧ SeqAt.shaped (.list [.str z]) = true then some (PyData.eqv (.list [.str z]) (.list [.str z])) else none) = _
    rw [if_pos ⟨hs, hs⟩]
    simp [PyData.eqv, PyData.eqvAll]
  show (eqD _ _).map _ = _
  rw [e]; rfl
theorem ne_one_pp (p q : Q2) : neD (.lst [.tup [pr p, pr q]]) (.lst [.tup [pr p, pr q]]) = some false := by
  have hs : SeqAt.shaped (.list [.tuple [.tuple [.int p.1, .int p.2], .tuple [.int q.1, .int q.2]]]) = true := rfl
  have e : eqD (.lst [.tup [pr p, pr q]]) (.lst [.tup [pr p, pr q]]) = some true := by
    show (if SeqAt.shaped (.list [.tuple [.tuple [.int p.1, .int p.2], .tuple [.int q.1, .int q.2]]]) = true ∧ SeqAt.shaped (.list [.tuple [.tuple [.int p.1, .int p.2], .tuple [.int q.1, .int q.2]]]) = true then some (PyData.eqv (.list [.tuple [.tuple [.int p.1, .int p.2], .tuple [.int q.1, .int q.2]]]) (.list [.tuple [.tuple [.int p.1, .int p.2], .tuple [.int q.1, .int q.2]]])) else none) = _
    rw [if_pos ⟨hs, hs⟩]
    simp [PyData.eqv, PyData.eqvAll]
  show (eqD _ _).map _ = _
  rw [e]; rfl
/-- what a stretch is not made of, and what is seen of it -/
structure Wrong (x : D) : Prop where
  fr : x.free = true
  bad : m_Stretch_init [x] = M.raise "BadStretch" (noTx x)
  ne : neD (.lst [x]) (.lst [x]) = some false
  tr : ∃ b, isND x (.bl true) = some b
theorem Wrong.txt {l : List Nat} (h1 : m__ends_from [.str (S l)] = pure .non) (h2 : ∀ c ∈ l, c < 128) : Wrong (.str (S l)) := ⟨rfl, init_txt h1, ne_one_str (strOk_S h2), ⟨false, rfl⟩⟩
def wrongs (p q : Q2) : List D := [.str (S ([40, 32] ++ qtl q ++ [32] ++ qtl p ++ [32, 41])), .str (S ([40, 32] ++ qtl p ++ [32] ++ qtl p ++ [32, 41])), .str (S ([40] ++ qtl p ++ [32] ++ qtl q ++ [41])),
  .str (S ([40, 32] ++ qtl p ++ [32, 32] ++ qtl q ++ [32, 41])), .str (S ([40, 32] ++ qtl p ++ [32] ++ qtl q ++ [32, 41, 32])), .str (S ([40, 32] ++ qtl p ++ [32, 41])), .str (S ([40, 32, 45, 48, 32] ++ qtl q ++ [32, 41])),
  .str (S ([40, 32] ++ zl (2 * p.1) ++ [47] ++ zl (2 * p.2) ++ [32, 45, 32, 41])), .str (S ([91, 32] ++ qtl p ++ [32] ++ qtl q ++ [32, 93])), .non, .int 7, .tup [pr p, pr q], .bl true]
theorem wrong_ok {p q : Q2} (hp : VQ 1800 p) (hq : VQ 1800 q) (h : ltQ p q) : ∀ x ∈ wrongs p q, Wrong x := by
  have hp' := hp.mono (show 1800 ≤ 1900 by decide)
  have hq' := hq.mono (show 1800 ≤ 1900 by decide)
  have l1 := qtl_len hp'.s1 hp'.s2
  have l2 := qtl_len hq'.s1 hq'.s2
  have s1 : 32 ∉ qtl p := qtl_sp
  have s2 : 32 ∉ qtl q := qtl_sp
  have lt : ∀ {c : Nat}, (c ∈ qtl p ∨ c ∈ qtl q) → c < 128 := fun z => z.elim qtl_lt qtl_lt
  have ne1 : ∀ {a : Nat} {l : List Nat}, l ≠ [] → a :: l ≠ [] := fun _ => by simp
  intro x hx
  unfold wrongs at hx
  simp only [List.mem_cons, List.not_mem_nil, or_false] at hx
  rcases hx with rfl | rfl | rfl | rfl | rfl | rfl | rfl | rfl | rfl | rfl | rfl | rfl | rfl
  · refine .txt ?_ ?_
    · have := ends_order hq' hp' (ltQ_asymm h)
      have e : TL.joinL [32] [[40], qtl q, qtl p, [41]] = [40, 32] ++ qtl q ++ [32] ++ qtl p ++ [32, 41] := by simp [TL.joinL]
      rw [e] at this; exact this
    · intro c hc
      simp only [List.mem_append, List.mem_cons, List.not_mem_nil, or_false] at hc
      rcases hc with (((hc | hc) | hc) | hc) | hc <;> first | exact qtl_lt hc | omega
  · refine .txt ?_ ?_
    · have := ends_order hp' hp' (ltQ_irrefl _)
      have e : TL.joinL [32] [[40], qtl p, qtl p, [41]] = [40, 32] ++ qtl p ++ [32] ++ qtl p ++ [32, 41] := by simp [TL.joinL]
      rw [e] at this; exact this
    · intro c hc
      simp only [List.mem_append, List.mem_cons, List.not_mem_nil, or_false] at hc
      rcases hc with (((hc | hc) | hc) | hc) | hc <;> first | exact qtl_lt hc | omega
  · refine .txt ?_ ?_
    · have e : TL.joinL [32] [40 :: qtl p, qtl q ++ [41]] = [40] ++ qtl p ++ [32] ++ qtl q ++ [41] := by simp [TL.joinL]
      rw [← e]
      exact ends_len (by simp) (by intro y hy; simp at hy; rcases hy with rfl | rfl <;> simp [s1, s2]) (by simp [TL.joinL]; omega) (by simp)
    · intro c hc
      simp only [List.mem_append, List.mem_cons, List.not_mem_nil, or_false] at hc
      rcases hc with (((hc | hc) | hc) | hc) | hc <;> first | exact qtl_lt hc | omega
  · refine .txt ?_ ?_
    · have e : TL.joinL [32] [[40], qtl p, [], qtl q, [41]] = [40, 32] ++ qtl p ++ [32, 32] ++ qtl q ++ [32, 41] := by simp [TL.joinL]
      rw [← e]
      exact ends_len (by simp) (by intro y hy; simp at hy; rcases hy with rfl | rfl | rfl | rfl | rfl <;> simp [s1, s2]) (by simp [TL.joinL]; omega) (by simp)
    · intro c hc
      simp only [List.mem_append, List.mem_cons, List.not_mem_nil, or_false] at hc
      rcases hc with (((hc | hc) | hc) | hc) | hc <;> first | exact qtl_lt hc | omega
  · refine .txt ?_ ?_
    · have e : TL.joinL [32] [[40], qtl p, qtl q, [41], []] = [40, 32] ++ qtl p ++ [32] ++ qtl q ++ [32, 41, 32] := by simp [TL.joinL]
      rw [← e]
      exact ends_len (by simp) (by intro y hy; simp at hy; rcases hy with rfl | rfl | rfl | rfl | rfl <;> simp [s1, s2]) (by simp [TL.joinL]; omega) (by simp)
    · intro c hc
      simp only [List.mem_append, List.mem_cons, List.not_mem_nil, or_false] at hc
      rcases hc with (((hc | hc) | hc) | hc) | hc <;> first | exact qtl_lt hc | omega
  · refine .txt ?_ ?_
    · have e : TL.joinL [32] [[40], qtl p, [41]] = [40, 32] ++ qtl p ++ [32, 41] := by simp [TL.joinL]
      rw [← e]
      exact ends_len (by simp) (by intro y hy; simp at hy; rcases hy with rfl | rfl | rfl <;> simp [s1, s2]) (by simp [TL.joinL]; omega) (by simp)
    · intro c hc
      simp only [List.mem_append, List.mem_cons, List.not_mem_nil, or_false] at hc
      rcases hc with (hc | hc) | hc <;> first | exact qtl_lt hc | omega
  · refine .txt ?_ ?_
    · have e : TL.joinL [32] [[40], [45, 48], qtl q, [41]] = [40, 32, 45, 48, 32] ++ qtl q ++ [32, 41] := by simp [TL.joinL]
      rw [← e]
      exact ends_low (y := pr q) (by simp) s2 (by simp; omega) (by simp) pair_zero (by rw [if_neg qtl_dash]; exact pair_from_ok hq')
    · intro c hc
      simp only [List.mem_append, List.mem_cons, List.not_mem_nil, or_false] at hc
      rcases hc with (hc | hc) | hc <;> first | exact qtl_lt hc | omega
  · refine .txt ?_ ?_
    · have e : TL.joinL [32] [[40], zl (2 * p.1) ++ 47 :: zl (2 * p.2), [45], [41]] = [40, 32] ++ zl (2 * p.1) ++ [47] ++ zl (2 * p.2) ++ [32, 45, 32, 41] := by simp [TL.joinL]
      have sm2 : Sm 2 2 := by unfold Sm; decide
      have k1 := zl_len ((sm2.mul hp.s1).mono (show 2 + 1800 ≤ 1900 by decide))
      have k2 := zl_len ((sm2.mul hp.s2).mono (show 2 + 1800 ≤ 1900 by decide))
      rw [← e]
      refine ends_low (y := .non) ?_ (by simp) (by simp; omega) ?_ (pair_double hp) (by rw [if_pos rfl])
      · intro z
        rcases List.mem_append.mp z with z | z
        · exact zl_free (.inl (by decide)) (by decide) z
        · rcases List.mem_cons.mp z with z | z
          · cases z
          · exact zl_free (.inl (by decide)) (by decide) z
      · intro z
        have := congrArg List.length z
        have h1 : 0 < (zl (2 * p.1)).length := List.length_pos_iff.mpr (zl_ne _)
        simp at this
        omega
    · intro c hc
      simp only [List.mem_append, List.mem_cons, List.not_mem_nil, or_false] at hc
      rcases hc with (((hc | hc) | hc) | hc) | hc <;> first | exact zl_lt hc | omega
  · refine .txt ?_ ?_
    · have e : TL.joinL [32] [[91], qtl p, qtl q, [93]] = [91, 32] ++ qtl p ++ [32] ++ qtl q ++ [32, 93] := by simp [TL.joinL]
      rw [← e]
      exact ends_first (by intro y hy; simp at hy; rcases hy with rfl | rfl | rfl | rfl <;> simp [s1, s2]) (by simp [TL.joinL]; omega) (by simp)
    · intro c hc
      simp only [List.mem_append, List.mem_cons, List.not_mem_nil, or_false] at hc
      rcases hc with (((hc | hc) | hc) | hc) | hc <;> first | exact qtl_lt hc | omega
  · exact ⟨rfl, init_other rfl, rfl, ⟨false, rfl⟩⟩
  · exact ⟨rfl, init_other rfl, rfl, ⟨false, rfl⟩⟩
  · exact ⟨by simp, init_other rfl, ne_one_pp p q, ⟨false, rfl⟩⟩
  · exact ⟨rfl, init_other rfl, rfl, ⟨true, rfl⟩⟩
end K06
end

section
set_option Elab.async false
set_option linter.all false
set_option maxRecDepth 100000
set_option maxHeartbeats 4000000
set_option autoImplicit false
/-! K06I: _law_text_refused. -/
namespace K06
open PySem PySem.Spec PyProof.Rows L2 DL SX
/-- ends that are refused -/
structure WrongP (y : D) : Prop where
  ex : ∃ y0 y1 w, y = .tup [y0, y1] ∧ m_stretch_of [y0, y1] = M.raise "BadStretch" (noEnds w y0 y1)
  eq : eqD y y = some true
def wrongPs (p q : Q2) : List D := [.tup [pr q, pr p], .tup [pr p, pr p], .tup [pr p, .str "1"], .tup [.non, .bl true], .tup [.lst [.int 1, .int 2], pr q], .tup [.tup [.int 1, .int 0], pr q]]
theorem wrongP_ok {p q : Q2} (hp : VQ 1900 p) (hq : VQ 1900 q) (h : ltQ p q) : ∀ y ∈ wrongPs p q, WrongP y := by
  intro y hy
  unfold wrongPs at hy
  simp only [List.mem_cons, List.not_mem_nil, or_false] at hy
  have hpf : m_is_fraction [pr p] = pure (.bl true) := isf_en (o := some p) (q := p) (fun x e => by cases e; exact VQ.lq hp (Nat.le_refl _)) rfl
  rcases hy with rfl | rfl | rfl | rfl | rfl | rfl
  · exact ⟨⟨_, _, _, rfl, of_order hq hp (ltQ_asymm h)⟩, by have := eq_enp (some q, some p) (some q, some p); simpa [enp, en] using this⟩
  · exact ⟨⟨_, _, _, rfl, of_order hp hp (ltQ_irrefl _)⟩, by have := eq_enp (some p, some p) (some p, some p); simpa [enp, en] using this⟩
  · refine ⟨⟨_, _, _, rfl, of_second (.inr ⟨rfl, hpf⟩) (isf_str _) rfl⟩, ?_⟩
    have hs : SeqAt.shaped (.tuple [.tuple [.int p.1, .int p.2], .str "1"]) = true := by simp [SeqAt.shaped, PyData.canLay0, PyData.canLayAll0, PyData.depth, PyData.depthAll]; rw [show Str.ofString "1" = S [49] from S_lit]; exact strOk_S (by simp)
    show (if SeqAt.shaped (.tuple [.tuple [.int p.1, .int p.2], .str "1"]) = true ∧ SeqAt.shaped (.tuple [.tuple [.int p.1, .int p.2], .str "1"]) = true then some (PyData.eqv (.tuple [.tuple [.int p.1, .int p.2], .str "1"]) (.tuple [.tuple [.int p.1, .int p.2], .str "1"])) else none) = _
    rw [if_pos ⟨hs, hs⟩]
    simp [PyData.eqv, PyData.eqvAll]
  · exact ⟨⟨_, _, _, rfl, of_second (.inl rfl) (isf_bl _) rfl⟩, rfl⟩
  · refine ⟨⟨_, _, _, rfl, of_first (isf_lst _) rfl⟩, ?_⟩
    have hs : SeqAt.shaped (.tuple [.list [.int 1, .int 2], .tuple [.int q.1, .int q.2]]) = true := rfl
    show (if SeqAt.shaped (.tuple [.list [.int 1, .int 2], .tuple [.int q.1, .int q.2]]) = true ∧ SeqAt.shaped (.tuple [.list [.int 1, .int 2], .tuple [.int q.1, .int q.2]]) = true then some (PyData.eqv (.tuple [.list [.int 1, .int 2], .tuple [.int q.1, .int q.2]]) (.tuple [.list [.int 1, .int 2], .tuple [.int q.1, .int q.2]])) else none) = _
    rw [if_pos ⟨hs, hs⟩]
    simp [PyData.eqv, PyData.eqvAll]
  · exact ⟨⟨_, _, _, rfl, of_first (isf_pr (1, 0)) rfl⟩, by have := eq_enp (some (1, 0), some q) (some (1, 0), some q); simpa [enp, en, pr] using this⟩
theorem look_tx (x : D) : List.lookup ("text" : Str) (noTx x) = some x := rfl
theorem look_ends (w : String) (x y : D) : List.lookup ("text" : Str) (noEnds w x y) = some (.tup [x, y]) := rfl
theorem ix_t0 (x y : D) : ixM (.tup [x, y]) (.int 0) = pure x := rfl
theorem ix_t1 (x y : D) : ixM (.tup [x, y]) (.int 1) = pure y := rfl
noncomputable def tr0 : SM :=
    (sPar [] (aCons (eCall m__law_text (aCons (eVar 1) aNil)) (aCons (eCall m__law_text (aCons (eVar 2) aNil)) aNil)) (tg2 3 4))
noncomputable def tr1 : SM :=
    (sAsg [] (eLst (aCons (eBin addD (eBin addD (eBin addD (eBin addD (eC (.str "( ")) (eVar 4)) (eC (.str " "))) (eVar 3)) (eC (.str " )"))) (aCons (eBin addD (eBin addD (eBin addD (eBin addD (eC (.str "( ")) (eVar 3)) (eC (.str " "))) (eVar 3)) (eC (.str " )"))) (aCons (eBin addD (eBin addD (eBin addD (eBin addD (eC (.str "(")) (eVar 3)) (eC (.str " "))) (eVar 4)) (eC (.str ")"))) aNil)))) (tgN 5))
noncomputable def tr2 : SM :=
    (sAsg [] (eL (lCat (eVar 5) (eLst (aCons (eBin addD (eBin addD (eBin addD (eBin addD (eC (.str "( ")) (eVar 3)) (eC (.str "  "))) (eVar 4)) (eC (.str " )"))) (aCons (eBin addD (eBin addD (eBin addD (eBin addD (eC (.str "( ")) (eVar 3)) (eC (.str " "))) (eVar 4)) (eC (.str " ) "))) (aCons (eBin addD (eBin addD (eC (.str "( ")) (eVar 3)) (eC (.str " )"))) (aCons (eBin addD (eBin addD (eC (.str "( -0 ")) (eVar 4)) (eC (.str " )"))) aNil))))))) (tgN 5))
noncomputable def tr3 : SM :=
    (sAsg [] (eL (lCat (eVar 5) (eLst (aCons (eBin addD (eBin addD (eBin addD (eBin addD (eC (.str "( ")) (eCB strO1 (aCons (eBin mulD (eC (.int 2)) (eIx (eVar 1) (eC (.int 0)))) aNil))) (eC (.str "/"))) (eCB strO1 (aCons (eBin mulD (eC (.int 2)) (eIx (eVar 1) (eC (.int 1)))) aNil))) (eC (.str " - )"))) (aCons (eBin addD (eBin addD (eBin addD (eBin addD (eC (.str "[ ")) (eVar 3)) (eC (.str " "))) (eVar 4)) (eC (.str " ]"))) (aCons (eC .non) (aCons (eC (.int 7)) (aCons (eTup (aCons (eVar 1) (aCons (eVar 2) aNil))) (aCons (eC (.bl true)) aNil))))))))) (tgN 5))
noncomputable def tr4 : SM :=
    (sParN 6 7 [] (eCall m__law_of (aCons (eVar 0) (aCons (eVar 5) aNil))))
noncomputable def tr5 : SM :=
    (sTry 8 "BadStretch" ["BadNumber"]
     (sDrop [] (eCall m_Stretch_init (aCons (eVar 6) aNil)))
     (sApp 7 [] (eXf 8 "text" ["text", "why"])))
noncomputable def tr6 : SM :=
    (sIf [7] (cOr (cBin neD (eVar 7) (eLst (aCons (eVar 6) aNil))) (cBin neD (eBin (fun x y => (isND x y).map D.bl) (eVar 6) (eC (.bl true))) (eBin (fun x y => (isND x y).map D.bl) (eIx (eVar 7) (eC (.int 0))) (eC (.bl true)))))
     (sRet [] (eC (.bl false)))
     sNil)
noncomputable def tr7 : SM :=
    (sAsg [] (eCall m__law_of (aCons (eVar 0) (aCons (eLst (aCons (eTup (aCons (eVar 2) (aCons (eVar 1) aNil))) (aCons (eTup (aCons (eVar 1) (aCons (eVar 1) aNil))) (aCons (eTup (aCons (eVar 1) (aCons (eC (.str "1")) aNil))) (aCons (eTup (aCons (eC .non) (aCons (eC (.bl true)) aNil))) (aCons (eTup (aCons (eLst (aCons (eC (.int 1)) (aCons (eC (.int 2)) aNil))) (aCons (eVar 2) aNil))) (aCons (eTup (aCons (eTup (aCons (eC (.int 1)) (aCons (eC (.int 0)) aNil))) (aCons (eVar 2) aNil))) aNil))))))) aNil))) (tgN 9))
noncomputable def tr8 : SM :=
    (sTry 8 "BadStretch" ["BadNumber"]
     (sDrop [] (eCall m_stretch_of (aCons (eIx (eVar 9) (eC (.int 0))) (aCons (eIx (eVar 9) (eC (.int 1))) aNil))))
     (sRet [] (eAnd (eBin (fun x y => (eqD x y).map D.bl) (eXf 8 "text" ["text", "why"]) (eVar 9)) (eIs Tb (.ty "tuple") (eXf 8 "text" ["text", "why"])))))
noncomputable def tr9 : SM :=
    (sRet [] (eC (.bl false)))
theorem tr_all : s__law_text_refused = (sSeq tr0 (sSeq tr1 (sSeq tr2 (sSeq tr3 (sSeq tr4 (sSeq tr5 (sSeq tr6 (sSeq tr7 (sSeq tr8 tr9))))))))) := rfl
theorem frz_e : ∀ (ρ : Sls) (k : Nat), frzG [] k ρ = ρ
  | [], _ => rfl
  | s :: r, k => by rw [frz_cons, frz_e r]; cases s <;> rfl
theorem seq_nx {s t : SM} {ρ ρ' : Sls} {ω ω' : Om} (h : s ρ ω = .nx ρ' ω') : sSeq s t ρ ω = t ρ' ω' := by rw [k_seq, h]
theorem asg_ok {f : Sls → M D} {i : Nat} {ρ : Sls} {ω ω' : Om} {d : D} (h : (f (vis [] ρ)).run ω = .ok d ω') (hi : i < ρ.length) : sAsg [] f (tgN i) ρ ω = .nx (ρ.set i (.val d)) ω' := by
  rw [k_asg, k_ev, h]
  simp only [frz_e, tg_n, Option.bind_some, sets_cons, sets_nil, if_pos hi]
  split <;> rfl
theorem text_refused_ok {T : Nat} {ω : Om} {p q : Q2} (h : BX T ω) (hT : T ≤ 100000) (hp : VQ 1800 p) (hq : VQ 1800 q) (hlt : ltQ p q) : ∃ ω', BX (T + 2) ω' ∧ (m__law_text_refused [.box, pr p, pr q]).run ω = .ok (.bl true) ω' := by
  have hp' := hp.mono (show 1800 ≤ 1900 by decide)
  have hq' := hq.mono (show 1800 ≤ 1900 by decide)
  obtain ⟨x, ω1, e1, x1, b1⟩ := of_ok (xs := wrongs p q) h (by omega) (by simp [wrongs]) (by simp [wrongs])
  obtain ⟨y, ω2, e2, y1, b2⟩ := of_ok (xs := wrongPs p q) b1 (by omega) (by simp [wrongPs]) (by simp [wrongPs])
  obtain ⟨xf, xb, xn, ⟨bb, xt⟩⟩ := wrong_ok hp hq hlt x x1
  obtain ⟨⟨y0, y1', w, rfl, yb⟩, ye⟩ := wrongP_ok hp' hq' hlt y y1
  refine ⟨ω2, b2, ?_⟩
  have l1 := qtl_len hp'.s1 hp'.s2
  have l2 := qtl_len hq'.s1 hq'.s2
  have sm2 : Sm 2 2 := by unfold Sm; decide
  have z1 : Sm 1900 (2 * p.1) := (sm2.mul hp.s1).mono (by decide)
  have z2 : Sm 1900 (2 * p.2) := (sm2.mul hp.s2).mono (by decide)
  have k1 := zl_len z1
  have k2 := zl_len z2
  have t1 := law_text_ok hp'.s1 hp'.s2
  have t2 := law_text_ok hq'.s1 hq'.s2
  have m1 : mulD (.int 2) (.int p.1) = some (.int (2 * p.1)) := mul_ok sm2 hp.s1
  have m2 : mulD (.int 2) (.int p.2) = some (.int (2 * p.2)) := mul_ok sm2 hp.s2
  have hrun : (m__law_text_refused [.box, pr p, pr q]).run ω = bodyR (s__law_text_refused (startS 10 [.box, pr p, pr q]) ω) := rfl
  rw [hrun, tr_all]
  -- the two texts
  have s0 : tr0 (startS 10 [.box, pr p, pr q]) ω = .nx [.val .box, .val (pr p), .val (pr q), .val (.str (S (qtl p))), .val (.str (S (qtl q))), .no, .no, .no, .no, .no] ω := by
    unfold tr0
    simp [startS, t1, t2]
  rw [seq_nx s0]
  -- the wrong ones
  have f3 : ∀ r : Sl, eVar 3 (vis [] [.val .box, .val (pr p), .val (pr q), .val (.str (S (qtl p))), .val (.str (S (qtl q))), r, .no, .no, .no, .no]) = pure (.str (S (qtl p))) := fun _ => rfl
  have f4 : ∀ r : Sl, eVar 4 (vis [] [.val .box, .val (pr p), .val (pr q), .val (.str (S (qtl p))), .val (.str (S (qtl q))), r, .no, .no, .no, .no]) = pure (.str (S (qtl q))) := fun _ => rfl
  have g1 := acons (cat5 (lit (s := "( ")) (f4 .no) (lit (s := " ")) (f3 .no) (lit (s := " )")) (by simp; omega)) (acons (cat5 (lit (s := "( ")) (f3 .no) (lit (s := " ")) (f3 .no) (lit (s := " )")) (by simp; omega)) (acons (cat5 (lit (s := "(")) (f3 .no) (lit (s := " ")) (f4 .no) (lit (s := ")")) (by simp; omega)) (r_nil _)))
  have s1 : tr1 [.val .box, .val (pr p), .val (pr q), .val (.str (S (qtl p))), .val (.str (S (qtl q))), .no, .no, .no, .no, .no] ω = .nx [.val .box, .val (pr p), .val (pr q), .val (.str (S (qtl p))), .val (.str (S (qtl q))), .val (.lst ((wrongs p q).take 3)), .no, .no, .no, .no] ω := by
    unfold tr1
    refine (asg_ok (d := .lst ((wrongs p q).take 3)) (ω' := ω) ?_ (by simp)).trans rfl
    rw [r_lst, g1]
    rfl
  rw [seq_nx s1]
  have g2 := fun r => acons (cat5 (lit (s := "( ")) (f3 r) (lit (s := "  ")) (f4 r) (lit (s := " )")) (by simp; omega)) (acons (cat5 (lit (s := "( ")) (f3 r) (lit (s := " ")) (f4 r) (lit (s := " ) ")) (by simp; omega)) (acons (cat3 (lit (s := "( ")) (f3 r) (lit (s := " )")) (by simp; omega)) (acons (cat3 (lit (s := "( -0 ")) (f4 r) (lit (s := " )")) (by simp; omega)) (r_nil _))))
  have s2 : tr2 [.val .box, .val (pr p), .val (pr q), .val (.str (S (qtl p))), .val (.str (S (qtl q))), .val (.lst ((wrongs p q).take 3)), .no, .no, .no, .no] ω = .nx [.val .box, .val (pr p), .val (pr q), .val (.str (S (qtl p))), .val (.str (S (qtl q))), .val (.lst ((wrongs p q).take 7)), .no, .no, .no, .no] ω := by
    unfold tr2
    refine (asg_ok (d := .lst ((wrongs p q).take 7)) (ω' := ω) ?_ (by simp)).trans rfl
    rw [r_eL, r_cat, r_lst, g2]
    rfl
  rw [seq_nx s2]
  have f1 : ∀ r : Sl, eCB strO1 (aCons (eBin mulD (eC (.int 2)) (eIx (eVar 1) (eC (.int 0)))) aNil) (vis [] [.val .box, .val (pr p), .val (pr q), .val (.str (S (qtl p))), .val (.str (S (qtl q))), r, .no, .no, .no, .no]) = pure (.str (S (zl (2 * p.1)))) := fun r => by simp [m1, str_ok z1]
  have f2 : ∀ r : Sl, eCB strO1 (aCons (eBin mulD (eC (.int 2)) (eIx (eVar 1) (eC (.int 1)))) aNil) (vis [] [.val .box, .val (pr p), .val (pr q), .val (.str (S (qtl p))), .val (.str (S (qtl q))), r, .no, .no, .no, .no]) = pure (.str (S (zl (2 * p.2)))) := fun r => by simp [m2, str_ok z2]
  have f5 : ∀ r : Sl, eTup (aCons (eVar 1) (aCons (eVar 2) aNil)) (vis [] [.val .box, .val (pr p), .val (pr q), .val (.str (S (qtl p))), .val (.str (S (qtl q))), r, .no, .no, .no, .no]) = pure (.tup [pr p, pr q]) := fun r => rfl
  have g3 := fun r => acons (cat5 (lit (s := "( ")) (f1 r) (lit (s := "/")) (f2 r) (lit (s := " - )")) (by simp; omega)) (acons (cat5 (lit (s := "[ ")) (f3 r) (lit (s := " ")) (f4 r) (lit (s := " ]")) (by simp; omega)) (acons (r_c _ .non) (acons (r_c _ (.int 7)) (acons (f5 r) (acons (r_c _ (.bl true)) (r_nil _))))))
  have s3 : tr3 [.val .box, .val (pr p), .val (pr q), .val (.str (S (qtl p))), .val (.str (S (qtl q))), .val (.lst ((wrongs p q).take 7)), .no, .no, .no, .no] ω = .nx [.val .box, .val (pr p), .val (pr q), .val (.str (S (qtl p))), .val (.str (S (qtl q))), .val (.lst (wrongs p q)), .no, .no, .no, .no] ω := by
    unfold tr3
    refine (asg_ok (d := .lst (wrongs p q)) (ω' := ω) ?_ (by simp)).trans rfl
    rw [r_eL, r_cat, r_lst, g3]
    rfl
  rw [seq_nx s3]
  have s4 : tr4 [.val .box, .val (pr p), .val (pr q), .val (.str (S (qtl p))), .val (.str (S (qtl q))), .val (.lst (wrongs p q)), .no, .no, .no, .no] ω = .nx [.val .box, .val (pr p), .val (pr q), .val (.str (S (qtl p))), .val (.str (S (qtl q))), .val (.lst (wrongs p q)), .val x, .own (.lst []), .no, .no] ω1 := by
    unfold tr4
    generalize wrongs p q = W at *
    simp [M.bind_run, e1, xf]
  rw [seq_nx s4]
  generalize wrongs p q = W at *
  have s5 : tr5 [.val .box, .val (pr p), .val (pr q), .val (.str (S (qtl p))), .val (.str (S (qtl q))), .val (.lst W), .val x, .own (.lst []), .no, .no] ω1 = .nx [.val .box, .val (pr p), .val (pr q), .val (.str (S (qtl p))), .val (.str (S (qtl q))), .val (.lst W), .val x, .own (.lst [x]), .no, .no] ω1 := by
    unfold tr5
    simp [k_try, xb, clrR, k_app, k_appK, has_text, look_tx, xf, clrS, Sl.clr]
  rw [seq_nx s5]
  have s6 : tr6 [.val .box, .val (pr p), .val (pr q), .val (.str (S (qtl p))), .val (.str (S (qtl q))), .val (.lst W), .val x, .own (.lst [x]), .no, .no] ω1 = .nx [.val .box, .val (pr p), .val (pr q), .val (.str (S (qtl p))), .val (.str (S (qtl q))), .val (.lst W), .val x, .own (.lst [x]), .no, .no] ω1 := by
    unfold tr6
    have nb : neD (.bl bb) (.bl bb) = some false := by cases bb <;> rfl
    simp [xn, xt, nb]
  rw [seq_nx s6]
  have s7 : tr7 [.val .box, .val (pr p), .val (pr q), .val (.str (S (qtl p))), .val (.str (S (qtl q))), .val (.lst W), .val x, .own (.lst [x]), .no, .no] ω1 = .nx [.val .box, .val (pr p), .val (pr q), .val (.str (S (qtl p))), .val (.str (S (qtl q))), .val (.lst W), .val x, .own (.lst [x]), .no, .val (.tup [y0, y1'])] ω2 := by
    unfold tr7
    refine (asg_ok (d := .tup [y0, y1']) (ω' := ω2) ?_ (by simp)).trans rfl
    unfold wrongPs at e2
    simp [M.bind_run, map_run, e2]
  rw [seq_nx s7]
  have s8 : tr8 [.val .box, .val (pr p), .val (pr q), .val (.str (S (qtl p))), .val (.str (S (qtl q))), .val (.lst W), .val x, .own (.lst [x]), .no, .val (.tup [y0, y1'])] ω2 = .rt (.bl true) ω2 := by
    unfold tr8
    have it : isK Tb (.ty "tuple") (.tup [y0, y1']) = some true := rfl
    simp [k_try, ix_t0, ix_t1, yb, clrR, has_text, look_ends, ye, it]
  rw [k_seq, s8]
  rfl
end K06
end

section
set_option Elab.async false
set_option linter.all false
set_option maxRecDepth 100000
set_option maxHeartbeats 4000000
set_option autoImplicit false
/-! K06Z: the law itself. -/
namespace K06
open PySem PySem.Spec PyProof.Rows L2 DL SX
noncomputable def lb3 : SM :=
    (sIf [] (cBin eqD (eCall m__law_draw (aCons (eVar 1) (aCons (eC (.int 2)) aNil))) (eC (.int 0)))
      (sApp 5 [] (eCall m_Stretch_init (aCons (eCall m__law_written (aCons (eVar 6) aNil)) aNil)))
      (sSeq (sAsg [] (eCall m__law_from (aCons (eVar 1) (aCons (eC (.int 1)) (aCons (eC (.int 3)) aNil)))) (tgN 7))
      (sSeq (sNew 8 [] (eLC (iVal (eVar 6)) [9] (tgN 9) cYes (eIf (cBin isND (eVar 9) (eC .non)) (eC .non) (eTup (aCons (eBin mulD (eIx (eVar 9) (eC (.int 0))) (eVar 7)) (aCons (eBin mulD (eIx (eVar 9) (eC (.int 1))) (eVar 7)) aNil))))))
      (sApp 5 [8] (eCall m_stretch_of (aCons (eIx (eVar 8) (eC (.int 0))) (aCons (eIx (eVar 8) (eC (.int 1))) aNil)))))))
noncomputable def lb5i : SM :=
    (sIf [] (cNot (cVal (eCall m__law_truth (aCons (eBinM (inO "Stretch" m_Stretch___contains__) (eVar 14) (eVar 13)) (aCons (eCall m__law_holds (aCons (eVar 6) (aCons (eIf (cVal (eIs Tb (.ty "tuple") (eVar 14))) (eVar 14) (eTup (aCons (eVar 14) (aCons (eC (.int 1)) aNil)))) aNil))) aNil)))))
       (sRet [] (eC (.bl false)))
       sNil)
noncomputable def lb5 : SM :=
    (sSeq (sIf [] (cOr (cNot (cVal (eCall m__law_right (aCons (eVar 13) (aCons (eVar 6) aNil))))) (cOr (cNot (cBinM (eqO Tb "Stretch" m_Stretch___eq__) (eCall m_Stretch_init (aCons (eCall m__law_written (aCons (eVar 6) aNil)) aNil)) (eVar 13))) (cBin isNotD (eBinM (eqO Tb "Stretch" m_Stretch___eq__) (eVar 13) (eCall m__law_written (aCons (eVar 6) aNil))) (eC (.bl false)))))
      (sRet [] (eC (.bl false)))
      sNil) (sFor [] (iVal (eL (lCat (eVar 10) (eLst (aCons (eTup (aCons (eBin mulD (eC (.int 3)) (eIx (eIx (eVar 2) (eC (.int 0))) (eC (.int 0)))) (aCons (eBin mulD (eC (.int 3)) (eIx (eIx (eVar 2) (eC (.int 0))) (eC (.int 1)))) aNil))) (aCons (eC (.int 0)) aNil)))))) (tgN 14) lb5i))
noncomputable def lb6i : SM :=
    (sIf [3, 5] (cNot (cVal (eCall m__law_two_right (aCons (eIx (eVar 5) (eVar 4)) (aCons (eIx (eVar 5) (eVar 15)) (aCons (eIx (eVar 3) (eVar 4)) (aCons (eIx (eVar 3) (eVar 15)) aNil)))))))
       (sRet [] (eC (.bl false)))
       sNil)
noncomputable def lb6 : SM :=
    (sFor [5] (iRng1 (aCons (eCB lenO (aCons (eVar 5) aNil)) aNil)) (tgN 15) lb6i)
noncomputable def lw0 : SM :=
    (sAsg [] (eCall m__law_numbers (aCons (eVar 1) aNil)) (tgN 2))
noncomputable def lw1 : SM :=
    (sNew 3 [] (eLC (iRng1 (aCons (eCall m__law_from (aCons (eVar 1) (aCons (eC (.int 3)) (aCons (eC (.int 5)) aNil)))) aNil)) [4] (tgN 4) cYes (eCall m__law_ends (aCons (eVar 1) (aCons (eVar 2) aNil)))))
noncomputable def lw2 : SM :=
    (sNew 5 [] (lsz aNil))
noncomputable def lw3 : SM :=
    (sFor [3] (iVal (eVar 3)) (tgN 6) lb3)
noncomputable def lw4 : SM :=
    (sAsg [] (eL (lCat (eVar 2) (eL (eLC (iZip2 (aCons (eVar 2) (aCons (eL (lCat (eSl (eVar 2) (oSo (eC (.int 1))) oNo) (eLst (aCons (eTup (aCons (eC (.int 0)) (aCons (eC (.int 1)) aNil))) aNil)))) aNil))) [11, 12] (tgT 2 (tgsCons (tgN 11) (tgsCons (tgN 12) tgsNil))) cYes (eCall m__law_low (aCons (eBin addD (eBin mulD (eIx (eVar 11) (eC (.int 0))) (eIx (eVar 12) (eC (.int 1)))) (eBin mulD (eIx (eVar 12) (eC (.int 0))) (eIx (eVar 11) (eC (.int 1))))) (aCons (eBin mulD (eBin mulD (eC (.int 2)) (eIx (eVar 11) (eC (.int 1)))) (eIx (eVar 12) (eC (.int 1)))) aNil))))))) (tgN 10))
noncomputable def lw5 : SM :=
    (sFor [3, 5] (iZip2 (aCons (eVar 5) (aCons (eVar 3) aNil))) (tgT 2 (tgsCons (tgN 13) (tgsCons (tgN 6) tgsNil))) lb5)
noncomputable def lw6 : SM :=
    (sFor [5] (iRng1 (aCons (eCB lenO (aCons (eVar 5) aNil)) aNil)) (tgN 4) lb6)
noncomputable def lw7 : SM :=
    (sAsg [] (eLst (aCons (eIx (eVar 2) (eC (.int 0))) (aCons (eCall m__law_plus (aCons (eIx (eVar 2) (eC (.int 0))) (aCons (eTup (aCons (eC (.int 1)) (aCons (eC (.int 1)) aNil))) aNil))) aNil))) (tgN 16))
noncomputable def lw8 : SM :=
    (sIf [3, 5] (cOr (cNot (cVal (eCall m__law_three_right (aCons (eVar 5) (aCons (eVar 3) aNil))))) (cNot (cVal (eCall m__law_text_refused (aCons (eVar 1) (aCons (eIx (eVar 16) (eC (.int 0))) (aCons (eIx (eVar 16) (eC (.int 1))) aNil)))))))
     (sRet [] (eC (.bl false)))
     sNil)
noncomputable def lw9 : SM :=
    (sRet [5] (eCall m__law_value_refused (aCons (eVar 1) (aCons (eIx (eVar 5) (eC (.int 0))) aNil))))
theorem lw_all : s_law = (sSeq lw0 (sSeq lw1 (sSeq lw2 (sSeq lw3 (sSeq lw4 (sSeq lw5 (sSeq lw6 (sSeq lw7 (sSeq lw8 lw9))))))))) := rfl

@[simp] theorem frz_false (s : Sl) : Sl.frz false s = s := by cases s <;> rfl
theorem nox_run {α : Type} (m : M α) (ω : Om) : m.nox.run ω = match m.run ω with | .ok a ω' => .ok a ω' | _ => .bad := rfl
/-- the ends, one behind another -/
theorem lc_ends {qs : List Q2} (hq : ∀ q ∈ qs, VQ 400 q) (hne : qs ≠ []) (hl : qs.length ≤ 100) {s0 : Sl} {ss : Sls} : ∀ (xs : List D) (T : Nat) (ω : Om) (acc : List E2), BX T ω → T + 4 * xs.length ≤ 10000 → acc.length + xs.length ≤ 100 → ∃ es ω', (∀ a ∈ es, VE 400 a) ∧ es.length = xs.length ∧ BX (T + 4 * xs.length) ω' ∧
    (lcGo [4] (tgN 4) cYes (eCall m__law_ends (aCons (eVar 1) (aCons (eVar 2) aNil))) (s0 :: .val .box :: .val (.lst (qs.map pr)) :: .no :: .no :: ss) xs (acc.map enp)).run ω = .ok ((acc ++ es).map enp) ω'
  | [], T, ω, acc, h, hT, ha => ⟨[], ω, fun a z => (by cases z), rfl, h, by simp [lcGo]⟩
  | x :: xs, T, ω, acc, h, hT, ha => by
    have hx : (x :: xs).length = xs.length + 1 := rfl
    obtain ⟨a, ω1, v, b1, e1⟩ := ends_ok h (by omega) hq hne hl
    obtain ⟨es, ω', g1, g2, g3, g4⟩ := lc_ends hq hne hl (s0 := s0) (ss := ss) xs (T + 4) ω1 (acc ++ [a]) b1 (by omega) (by rw [List.length_append]; simp; omega)
    refine ⟨a :: es, ω', ?_, by simp [g2], g3.mono (by omega), ?_⟩
    · intro c hc
      rcases List.mem_cons.mp hc with z | z
      · rw [z]; exact v
      · exact g1 c z
    · have hlen : acc.length < 16000000 := by omega
      unfold lcGo
      simp only [List.map_append, List.map_cons, List.map_nil, List.append_assoc, List.cons_append, List.nil_append] at g4
      simp [wipeS, M.bind_run, nox_run, e1, hlen, g4]
/-- ends in loose terms -/
def sc (f : Int) : Option Q2 → Option Q2
  | none => none
  | some q => some (q.1 * f, q.2 * f)
theorem lo_sc {f : Int} {o : Option Q2} (hf : 0 < f) (h : VO 400 o) : lo (sc f o) = o := by
  cases o with
  | none => rfl
  | some q => exact congrArg some (lowQ_scaled (show VQ 400 q from h) (by omega))
theorem LO_sc {f : Int} {o : Option Q2} (hf : 0 < f) (hf2 : Sm 10 f) (h : VO 400 o) : LO (sc f o) := by
  cases o with
  | none => exact fun q e => by cases e
  | some q =>
    have v : VQ 400 q := h
    exact fun p e => by
      cases e
      exact ⟨Int.mul_pos v.pos hf, (v.s1.mul hf2).mono (by decide), (v.s2.mul hf2).mono (by decide)⟩
theorem sc_one {f : Int} (hf2 : Sm 10 f) {o : Option Q2} (h : VO 400 o) {ρ : Sls} (h9 : eVar 9 ρ = pure (en o)) (h7 : eVar 7 ρ = pure (.int f)) : eIf (cBin isND (eVar 9) (eC .non)) (eC .non) (eTup (aCons (eBin mulD (eIx (eVar 9) (eC (.int 0))) (eVar 7)) (aCons (eBin mulD (eIx (eVar 9) (eC (.int 1))) (eVar 7)) aNil))) ρ = pure (en (sc f o)) := by
  cases o with
  | none => simp only [r_if, r_cbin, h9, h7, r_c, pure_bind, en, is_non_non, ofOpt_some, if_true, sc]
  | some q =>
    have v : VQ 400 q := h
    have e1 := mul_ok v.s1 hf2
    have e2 := mul_ok v.s2 hf2
    simp only [r_if, r_cbin, h9, h7, r_c, pure_bind, en, is_pr_non, ofOpt_some, Bool.false_eq_true, if_false, sc, r_tup, r_cons, r_bin, r_ix, ix_pr0, ix_pr1, e1, e2, r_nil]
    rfl
theorem made_turn {T : Nat} {ω : Om} {a : E2} {ms : List E2} {s0 s2 s3 s4 s7 s8 s9 s10 s11 s12 s13 s14 s15 s16 : Sl} (h : BX T ω) (hT : T ≤ 10000) (ha : VE 400 a) (hm : ms.length ≤ 100) : ∃ r7 r8 ω', BX (T + 2) ω' ∧
    lb3 [s0, .val .box, s2, s3, s4, .own (.lst (ms.map st)), .val (enp a), s7, s8, s9, s10, s11, s12, s13, s14, s15, s16] ω = .nx [s0, .val .box, s2, s3, s4, .own (.lst ((ms ++ [a]).map st)), .val (enp a), r7, r8, s9, s10, s11, s12, s13, s14, s15, s16] ω' := by
  obtain ⟨r, ω1, e1, r1, r2, b1⟩ := draw_ok (n := 2) h (by omega) (by decide) (by decide)
  have hlen : ms.length < 16000000 := by omega
  have hlo := ha.lo
  have hhi := ha.hi
  have ha' : VE 1900 a := ⟨by cases h1 : a.1 with | none => trivial | some q => (rw [h1] at hlo; exact VQ.mono hlo (by decide)), by cases h1 : a.2 with | none => trivial | some q => (rw [h1] at hhi; exact VQ.mono hhi (by decide)), ha.lt⟩
  by_cases z : r = 0
  · refine ⟨s7, s8, ω1, b1.mono (by omega), ?_⟩
    have ew := law_written_ok (Nat.le_refl 1900) ha'.lo ha'.hi
    have ei := init_ok (Nat.le_refl 1900) ha'
    unfold lb3
    simp only [List.map_append, List.map_cons, List.map_nil]
    simp [M.bind_run, e1, z, eq_intD, k_app, k_appK, ew, ei, hlen]
  · obtain ⟨f, ω2, e2, f1, f2, b2⟩ := from_ok (a := 1) (b := 3) b1 (by omega) (by decide) (by decide)
    have sf : Sm 10 f := by unfold Sm; omega
    have eo := stretch_of_ok (LO_sc (f := f) (by omega) sf hlo) (LO_sc (f := f) (by omega) sf hhi) (by rw [lo_sc (by omega) hlo, lo_sc (by omega) hhi]; exact ha.lt)
    rw [lo_sc (by omega) hlo, lo_sc (by omega) hhi] at eo
    have es : seqD (enp a) = some [en a.1, en a.2] := rfl
    refine ⟨.val (.int f), .val (.lst [en (sc f a.1), en (sc f a.2)]), ω2, b2.mono (by omega), ?_⟩
    unfold lb3
    simp only [List.map_append, List.map_cons, List.map_nil]
    have c1 : ∀ (x : D) (ρ : Sls), (9 < ρ.length) → ofOpt ((tgN 9 x).bind fun as => setsS (wipeS ρ [9]) as) = pure ((ρ.set 9 .no).set 9 (.val x)) := fun x ρ hl => by
      simp only [tg_n, Option.bind_some, sets_cons, sets_nil, wipeS, List.length_set, if_pos hl, ofOpt_some]
    have lc : ∀ (ρ : Sls), 9 < ρ.length → eVar 7 ρ = pure (.int f) → eVar 6 ρ = pure (enp a) → eLC (iVal (eVar 6)) [9] (tgN 9) cYes (eIf (cBin isND (eVar 9) (eC .non)) (eC .non) (eTup (aCons (eBin mulD (eIx (eVar 9) (eC (.int 0))) (eVar 7)) (aCons (eBin mulD (eIx (eVar 9) (eC (.int 1))) (eVar 7)) aNil)))) ρ = pure [en (sc f a.1), en (sc f a.2)] := fun ρ hl h7 h6 => by
      have g7 : ∀ x, eVar 7 ((ρ.set 9 .no).set 9 (.val x)) = pure (.int f) := fun x => by
        rw [r_var, List.getElem?_set_ne (by decide), List.getElem?_set_ne (by decide)]
        exact h7
      have g9 : ∀ x, eVar 9 ((ρ.set 9 .no).set 9 (.val x)) = pure x := fun x => by
        rw [r_var, List.getElem?_set_self (by rw [List.length_set]; exact hl)]
        rfl
      have t1 := sc_one sf hlo (g9 (en a.1)) (g7 (en a.1))
      have t2 := sc_one sf hhi (g9 (en a.2)) (g7 (en a.2))
      rw [r_eLC, r_ival, h6, pure_bind, es, ofOpt_some, pure_bind]
      unfold lcGo
      rw [c1 _ _ hl]
      simp only [pure_bind, r_yes, nox_pure, if_true, t1]
      rw [if_pos (by decide)]
      unfold lcGo
      rw [c1 _ _ hl]
      simp only [pure_bind, r_yes, nox_pure, if_true, t2]
      rw [if_pos (by simp)]
      unfold lcGo
      rfl
    simp only [k_if, k_cev]
    have d1 : (cBin eqD (eCall m__law_draw (aCons (eVar 1) (aCons (eC (.int 2)) aNil))) (eC (.int 0)) (vis [] [s0, .val .box, s2, s3, s4, .own (.lst (ms.map st)), .val (enp a), s7, s8, s9, s10, s11, s12, s13, s14, s15, s16])).run ω = .ok false ω1 := by
      simp [M.bind_run, map_run, e1, z, eq_intD]
    rw [d1]
    simp only [Bool.false_eq_true, if_false]
    rw [seq_nx (asg_ok (d := .int f) (ω' := ω2) (by simp [M.bind_run, e2]) (by simp))]
    rw [seq_nx (s := sNew 8 [] _) (ρ' := [s0, .val .box, s2, s3, s4, .own (.lst (ms.map st)), .val (enp a), .val (.int f), .own (.lst [en (sc f a.1), en (sc f a.2)]), s9, s10, s11, s12, s13, s14, s15, s16]) (ω' := ω2) (by
      rw [k_new, k_eva, lc _ (by simp) rfl rfl]
      simp)]
    simp [k_app, k_appK, eo, hlen]
theorem forS_cons {bd : D → Option (List (Nat × D))} {s : SM} {x : D} {xs : List D} {ρ ρ1 ρ' : Sls} {ω ω' : Om} (h1 : (bd x).bind (setsS ρ) = some ρ1) (h2 : s ρ1 ω = .nx ρ' ω') : forS bd s (x :: xs) ρ ω = forS bd s xs ρ' ω' := by
  show (match (bd x).bind (setsS ρ) with | none => RS.bad | some ρ1 => match s ρ1 ω with | .nx ρ' ω' => forS bd s xs ρ' ω' | .ct ρ' ω' => forS bd s xs ρ' ω' | .bk ρ' ω' => .nx ρ' ω' | r => r) = _
  rw [h1]
  dsimp only
  rw [h2]
theorem made_loop : ∀ (es : List E2) {T : Nat} {ω : Om} {ms : List E2} {s0 s2 s3 s4 s6 s7 s8 s9 s10 s11 s12 s13 s14 s15 s16 : Sl}, BX T ω → T + 2 * es.length ≤ 10000 → (∀ a ∈ es, VE 400 a) → ms.length + es.length ≤ 100 → ∃ r6 r7 r8 ω', BX (T + 2 * es.length) ω' ∧
    forS (tgN 6) lb3 (es.map enp) [s0, .val .box, s2, s3, s4, .own (.lst (ms.map st)), s6, s7, s8, s9, s10, s11, s12, s13, s14, s15, s16] ω = .nx [s0, .val .box, s2, s3, s4, .own (.lst ((ms ++ es).map st)), r6, r7, r8, s9, s10, s11, s12, s13, s14, s15, s16] ω'
  | [], T, ω, ms, s0, s2, s3, s4, s6, s7, s8, s9, s10, s11, s12, s13, s14, s15, s16, h, _, _, _ => ⟨s6, s7, s8, ω, h, by rw [List.append_nil]; rfl⟩
  | a :: es, T, ω, ms, s0, s2, s3, s4, s6, s7, s8, s9, s10, s11, s12, s13, s14, s15, s16, h, hT, he, hl => by
    have hx : (a :: es).length = es.length + 1 := rfl
    obtain ⟨r7, r8, ω1, b1, e1⟩ := made_turn (ms := ms) (s0 := s0) (s2 := s2) (s3 := s3) (s4 := s4) (s7 := s7) (s8 := s8) (s9 := s9) (s10 := s10) (s11 := s11) (s12 := s12) (s13 := s13) (s14 := s14) (s15 := s15) (s16 := s16) h (by omega) (he a (.head _)) (by omega)
    obtain ⟨q6, q7, q8, ω', b2, e2⟩ := made_loop es (ms := ms ++ [a]) (s0 := s0) (s2 := s2) (s3 := s3) (s4 := s4) (s6 := .val (enp a)) (s7 := r7) (s8 := r8) (s9 := s9) (s10 := s10) (s11 := s11) (s12 := s12) (s13 := s13) (s14 := s14) (s15 := s15) (s16 := s16) b1 (by omega) (fun c hc => he c (.tail _ hc)) (by rw [List.length_append]; simp; omega)
    refine ⟨q6, q7, q8, ω', b2.mono (by omega), ?_⟩
    rw [List.map_cons, forS_cons (ρ1 := [s0, .val .box, s2, s3, s4, .own (.lst (ms.map st)), .val (enp a), s7, s8, s9, s10, s11, s12, s13, s14, s15, s16]) rfl e1, e2, List.append_assoc]
    rfl
theorem VE.up {a : E2} (h : VE 400 a) : VE 1900 a := by
  obtain ⟨x, y⟩ := a
  have h1 := h.lo
  have h2 := h.hi
  refine ⟨?_, ?_, h.lt⟩
  · cases x with
    | none => trivial
    | some q => exact VQ.mono (show VQ 400 q from h1) (by decide)
  · cases y with
    | none => trivial
    | some q => exact VQ.mono (show VQ 400 q from h2) (by decide)
/-! ### the members that are asked for -/
/-- a member: a fraction in loose terms, an int -/
def Mem (x : D) : Prop := (∃ q, x = pr q ∧ LQ q) ∨ ∃ n : Int, x = .int n ∧ Sm 1900 n
theorem mem_turn {a : E2} {x : D} {ω : Om} {s0 s1 s2 s3 s4 s5 s7 s8 s9 s10 s11 s12 s15 s16 : Sl} (ha : VE 1900 a) (hx : Mem x) : lb5i [s0, s1, s2, s3, s4, s5, .val (enp a), s7, s8, s9, s10, s11, s12, .val (st a), .val x, s15, s16] ω = .nx [s0, s1, s2, s3, s4, s5, .val (enp a), s7, s8, s9, s10, s11, s12, .val (st a), .val x, s15, s16] ω := by
  unfold lb5i
  rcases hx with ⟨q, rfl, hq⟩ | ⟨n, rfl, hn⟩
  · have e1 := in_pr ha hq
    have e2 : isK Tb (.ty "tuple") (pr q) = some true := rfl
    have e3 := law_holds_ok ha hq.2.1 hq.2.2
    simp [e1, e2, e3, truth_ok]
  · have e1 := in_int ha hn
    have e2 : isK Tb (.ty "tuple") (.int n) = some false := rfl
    have e3 := law_holds_ok (q := (n, 1)) ha hn (show Sm 1900 1 by unfold Sm; decide +kernel)
    have e4 : D.tup [.int n, .int 1] = pr (n, 1) := rfl
    simp [e1, e2, e4, e3, truth_ok]
theorem mem_loop {a : E2} {ω : Om} {s0 s1 s2 s3 s4 s5 s7 s8 s9 s10 s11 s12 s15 s16 : Sl} (ha : VE 1900 a) : ∀ (xs : List D) (s14 : Sl), (∀ x ∈ xs, Mem x) → ∃ r14, forS (tgN 14) lb5i xs [s0, s1, s2, s3, s4, s5, .val (enp a), s7, s8, s9, s10, s11, s12, .val (st a), s14, s15, s16] ω = .nx [s0, s1, s2, s3, s4, s5, .val (enp a), s7, s8, s9, s10, s11, s12, .val (st a), r14, s15, s16] ω
  | [], s14, _ => ⟨s14, rfl⟩
  | x :: xs, s14, h => by
    obtain ⟨r, e⟩ := mem_loop ha xs (.val x) fun y hy => h y (.tail _ hy)
    refine ⟨r, ?_⟩
    rw [forS_cons (ρ1 := [s0, s1, s2, s3, s4, s5, .val (enp a), s7, s8, s9, s10, s11, s12, .val (st a), .val x, s15, s16]) rfl (mem_turn ha (h x (.head _)))]
    exact e
theorem check_turn {a : E2} {q : Q2} {qs : List Q2} {xs : List D} {ω : Om} {s0 s1 s3 s4 s5 s7 s8 s9 s11 s12 s14 s15 s16 : Sl} (ha : VE 1900 a) (hq : VQ 400 q) (hx : ∀ x ∈ xs, Mem x) (hl : xs.length ≤ 1000) : ∃ r14,
    lb5 [s0, s1, .val (.lst ((q :: qs).map pr)), s3, s4, s5, .val (enp a), s7, s8, s9, .val (.lst xs), s11, s12, .val (st a), s14, s15, s16] ω = .nx [s0, s1, .val (.lst ((q :: qs).map pr)), s3, s4, s5, .val (enp a), s7, s8, s9, .val (.lst xs), s11, s12, .val (st a), r14, s15, s16] ω := by
  have ew := law_written_ok (Nat.le_refl 1900) ha.lo ha.hi
  have ei := init_ok (Nat.le_refl 1900) ha
  have er := right_ok ha
  have e1 := eqO_st a a
  have e2 := eqO_sts a (S (wr a))
  have e3 : isNotD (.bl false) (.bl false) = some false := rfl
  have t3 : Sm 2 3 := by unfold Sm; decide
  have m1 : mulD (.int 3) (.int q.1) = some (.int (3 * q.1)) := mul_ok t3 hq.s1
  have m2 : mulD (.int 3) (.int q.2) = some (.int (3 * q.2)) := mul_ok t3 hq.s2
  have hm : ∀ x ∈ xs ++ [pr (3 * q.1, 3 * q.2), .int 0], Mem x := fun x h => by
    rcases List.mem_append.mp h with h | h
    · exact hx x h
    · simp only [List.mem_cons, List.not_mem_nil, or_false] at h
      rcases h with rfl | rfl
      · have := hq.pos
        exact .inl ⟨_, rfl, by show 0 < 3 * q.2; omega, (t3.mul hq.s1).mono (by decide), (t3.mul hq.s2).mono (by decide)⟩
      · exact .inr ⟨0, rfl, sm0⟩
  obtain ⟨r14, e4⟩ := mem_loop (a := a) (ω := ω) (s0 := s0) (s1 := s1) (s2 := .val (.lst ((q :: qs).map pr))) (s3 := s3) (s4 := s4) (s5 := s5) (s7 := s7) (s8 := s8) (s9 := s9) (s10 := .val (.lst xs)) (s11 := s11) (s12 := s12) (s15 := s15) (s16 := s16) ha (xs ++ [pr (3 * q.1, 3 * q.2), .int 0]) s14 hm
  refine ⟨r14, ?_⟩
  have hlen : xs.length + 2 ≤ 16000000 := by omega
  have ep : D.tup [.int (3 * q.1), .int (3 * q.2)] = pr (3 * q.1, 3 * q.2) := rfl
  unfold lb5
  simp only [List.map_cons] at e4 ⊢
  simp [er, ew, ei, e1, e2, e3, m1, m2, ep, hlen, e4]
theorem check_loop {q : Q2} {qs : List Q2} {xs : List D} {ω : Om} {s0 s1 s3 s4 s5 s7 s8 s9 s11 s12 s15 s16 : Sl} (hq : VQ 400 q) (hx : ∀ x ∈ xs, Mem x) (hl : xs.length ≤ 1000) : ∀ (es : List E2) (s6 s13 s14 : Sl), (∀ a ∈ es, VE 1900 a) → ∃ r6 r13 r14,
    forS (tgT 2 (tgsCons (tgN 13) (tgsCons (tgN 6) tgsNil))) lb5 (es.map fun a => .tup [st a, enp a]) [s0, s1, .val (.lst ((q :: qs).map pr)), s3, s4, s5, s6, s7, s8, s9, .val (.lst xs), s11, s12, s13, s14, s15, s16] ω = .nx [s0, s1, .val (.lst ((q :: qs).map pr)), s3, s4, s5, r6, s7, s8, s9, .val (.lst xs), s11, s12, r13, r14, s15, s16] ω
  | [], s6, s13, s14, _ => ⟨s6, s13, s14, rfl⟩
  | a :: es, s6, s13, s14, he => by
    obtain ⟨r14, e1⟩ := check_turn (a := a) (qs := qs) (ω := ω) (s0 := s0) (s1 := s1) (s3 := s3) (s4 := s4) (s5 := s5) (s7 := s7) (s8 := s8) (s9 := s9) (s11 := s11) (s12 := s12) (s14 := s14) (s15 := s15) (s16 := s16) (he a (.head _)) hq hx hl
    obtain ⟨r6, r13, q14, e2⟩ := check_loop hq hx hl es (.val (enp a)) (.val (st a)) r14 fun c hc => he c (.tail _ hc)
    refine ⟨r6, r13, q14, ?_⟩
    rw [List.map_cons, forS_cons (ρ1 := [s0, s1, .val (.lst ((q :: qs).map pr)), s3, s4, s5, .val (enp a), s7, s8, s9, .val (.lst xs), s11, s12, .val (st a), s14, s15, s16]) rfl e1]
    exact e2
/-! ### every two -/
theorem ix_map {f : E2 → D} {es : List E2} {j : Nat} (h : j < es.length) : ixM (.lst (es.map f)) (.int j) = pure (f es[j]) := by
  rw [ixL, List.getElem?_map, List.getElem?_eq_getElem h]; rfl
theorem two_turn {es : List E2} {i j : Nat} {ω : Om} {s0 s1 s2 s6 s7 s8 s9 s10 s11 s12 s13 s14 s16 : Sl} (he : ∀ a ∈ es, VE 1900 a) (hi : i < es.length) (hj : j < es.length) :
    lb6i [s0, s1, s2, .val (.lst (es.map enp)), .val (.int i), .val (.lst (es.map st)), s6, s7, s8, s9, s10, s11, s12, s13, s14, .val (.int j), s16] ω = .nx [s0, s1, s2, .val (.lst (es.map enp)), .val (.int i), .val (.lst (es.map st)), s6, s7, s8, s9, s10, s11, s12, s13, s14, .val (.int j), s16] ω := by
  have e1 := two_right_ok (he _ (List.getElem_mem hi)) (he _ (List.getElem_mem hj))
  have i1 := ix_map (f := st) hi
  have i2 := ix_map (f := st) hj
  have i3 := ix_map (f := enp) hi
  have i4 := ix_map (f := enp) hj
  unfold lb6i
  generalize D.lst (es.map st) = A at *
  generalize D.lst (es.map enp) = B at *
  simp [i1, i2, i3, i4, e1]
theorem rgL_eq (n : Nat) : rgL 0 1 n = (List.range n).map fun i : Nat => D.int i := by
  unfold rgL
  refine List.map_congr_left fun i _ => ?_
  congr 1
  omega
theorem two_loop {es : List E2} {i : Nat} {ω : Om} {s0 s1 s2 s6 s7 s8 s9 s10 s11 s12 s13 s14 s16 : Sl} (he : ∀ a ∈ es, VE 1900 a) (hi : i < es.length) : ∀ (js : List Nat) (s15 : Sl), (∀ j ∈ js, j < es.length) → ∃ r15,
    forS (tgN 15) lb6i (js.map fun j : Nat => D.int j) [s0, s1, s2, .val (.lst (es.map enp)), .val (.int i), .val (.lst (es.map st)), s6, s7, s8, s9, s10, s11, s12, s13, s14, s15, s16] ω = .nx [s0, s1, s2, .val (.lst (es.map enp)), .val (.int i), .val (.lst (es.map st)), s6, s7, s8, s9, s10, s11, s12, s13, s14, r15, s16] ω
  | [], s15, _ => ⟨s15, rfl⟩
  | j :: js, s15, h => by
    obtain ⟨r, e⟩ := two_loop he hi js (.val (.int j)) fun y hy => h y (.tail _ hy)
    refine ⟨r, ?_⟩
    rw [List.map_cons, forS_cons (ρ1 := [s0, s1, s2, .val (.lst (es.map enp)), .val (.int i), .val (.lst (es.map st)), s6, s7, s8, s9, s10, s11, s12, s13, s14, .val (.int j), s16]) rfl (two_turn he hi (h j (.head _)))]
    exact e
theorem rng1_ok {n : Nat} (h : n ≤ 1000) : rngO [.int n] = some ((List.range n).map fun i : Nat => D.int i) := by
  show (if rg62 n then some (rgL 0 1 (n : Int).toNat) else none) = _
  rw [if_pos, Int.toNat_natCast, rgL_eq]
  unfold rg62
  exact decide_eq_true ⟨by omega, by omega⟩
theorem all_turn {es : List E2} {i : Nat} {ω : Om} {s0 s1 s2 s6 s7 s8 s9 s10 s11 s12 s13 s14 s15 s16 : Sl} (he : ∀ a ∈ es, VE 1900 a) (hi : i < es.length) (hl : es.length ≤ 1000) : ∃ r15,
    lb6 [s0, s1, s2, .val (.lst (es.map enp)), .val (.int i), .val (.lst (es.map st)), s6, s7, s8, s9, s10, s11, s12, s13, s14, s15, s16] ω = .nx [s0, s1, s2, .val (.lst (es.map enp)), .val (.int i), .val (.lst (es.map st)), s6, s7, s8, s9, s10, s11, s12, s13, s14, r15, s16] ω := by
  obtain ⟨r, e⟩ := two_loop (ω := ω) (s0 := s0) (s1 := s1) (s2 := s2) (s6 := s6) (s7 := s7) (s8 := s8) (s9 := s9) (s10 := s10) (s11 := s11) (s12 := s12) (s13 := s13) (s14 := s14) (s16 := s16) he hi (List.range es.length) s15 fun j hj => List.mem_range.mp hj
  refine ⟨r, ?_⟩
  have er := rng1_ok hl
  unfold lb6
  rw [k_for]
  have ei : (iRng1 (aCons (eCB lenO (aCons (eVar 5) aNil)) aNil) (vis [5] [s0, s1, s2, .val (.lst (es.map enp)), .val (.int i), .val (.lst (es.map st)), s6, s7, s8, s9, s10, s11, s12, s13, s14, s15, s16])) = pure ((List.range es.length).map fun i : Nat => D.int i) := by
    simp [er]
  rw [ei, run_pure]
  dsimp only
  have ef : frz [5] [s0, s1, s2, .val (.lst (es.map enp)), .val (.int i), .val (.lst (es.map st)), s6, s7, s8, s9, s10, s11, s12, s13, s14, s15, s16] = [s0, s1, s2, .val (.lst (es.map enp)), .val (.int i), .val (.lst (es.map st)), s6, s7, s8, s9, s10, s11, s12, s13, s14, s15, s16] := by
    simp [frz]
  rw [ef]
  exact e
theorem all_loop {es : List E2} {ω : Om} {s0 s1 s2 s6 s7 s8 s9 s10 s11 s12 s13 s14 s16 : Sl} (he : ∀ a ∈ es, VE 1900 a) (hl : es.length ≤ 1000) : ∀ (is : List Nat) (s4 s15 : Sl), (∀ i ∈ is, i < es.length) → ∃ r4 r15,
    forS (tgN 4) lb6 (is.map fun j : Nat => D.int j) [s0, s1, s2, .val (.lst (es.map enp)), s4, .val (.lst (es.map st)), s6, s7, s8, s9, s10, s11, s12, s13, s14, s15, s16] ω = .nx [s0, s1, s2, .val (.lst (es.map enp)), r4, .val (.lst (es.map st)), s6, s7, s8, s9, s10, s11, s12, s13, s14, r15, s16] ω
  | [], s4, s15, _ => ⟨s4, s15, rfl⟩
  | i :: is, s4, s15, h => by
    obtain ⟨q15, e0⟩ := all_turn (ω := ω) (s0 := s0) (s1 := s1) (s2 := s2) (s6 := s6) (s7 := s7) (s8 := s8) (s9 := s9) (s10 := s10) (s11 := s11) (s12 := s12) (s13 := s13) (s14 := s14) (s15 := s15) (s16 := s16) he (h i (.head _)) hl
    obtain ⟨r4, r15, e⟩ := all_loop he hl is (.val (.int i)) q15 fun y hy => h y (.tail _ hy)
    refine ⟨r4, r15, ?_⟩
    rw [List.map_cons, forS_cons (ρ1 := [s0, s1, s2, .val (.lst (es.map enp)), .val (.int i), .val (.lst (es.map st)), s6, s7, s8, s9, s10, s11, s12, s13, s14, s15, s16]) rfl e0]
    exact e
/-! ### the middles -/
def mid (p : Q2 × Q2) : Q2 := lowQ (p.1.1 * p.2.2 + p.2.1 * p.1.2) (2 * p.1.2 * p.2.2)
noncomputable def e_mid : Sls → M D := (eCall m__law_low (aCons (eBin addD (eBin mulD (eIx (eVar 11) (eC (.int 0))) (eIx (eVar 12) (eC (.int 1)))) (eBin mulD (eIx (eVar 12) (eC (.int 0))) (eIx (eVar 11) (eC (.int 1))))) (aCons (eBin mulD (eBin mulD (eC (.int 2)) (eIx (eVar 11) (eC (.int 1)))) (eIx (eVar 12) (eC (.int 1)))) aNil)))
theorem mid_VQ {p : Q2 × Q2} (h1 : VQ 400 p.1) (h2 : VQ 400 p.2) : VQ 1900 (mid p) := by
  have s2 : Sm 2 2 := by unfold Sm; decide
  have hp : 2 * p.1.2 * p.2.2 ≠ 0 := by
    have a := Int.mul_pos (show (0 : Int) < 2 by decide) h1.pos
    have b := Int.mul_pos a h2.pos
    omega
  exact lowQ_valid hp ((Sm.add (k := 800) (h1.s1.mul h2.s2) (h2.s1.mul h1.s2)).mono (by decide)) (((s2.mul h1.s2).mul h2.s2).mono (by decide))
theorem mid_one {p : Q2 × Q2} {ρ : Sls} (h1 : VQ 400 p.1) (h2 : VQ 400 p.2) (h11 : eVar 11 ρ = pure (pr p.1)) (h12 : eVar 12 ρ = pure (pr p.2)) : e_mid ρ = pure (pr (mid p)) := by
  have s2 : Sm 2 2 := by unfold Sm; decide
  have hp : 2 * p.1.2 * p.2.2 ≠ 0 := by
    have a := Int.mul_pos (show (0 : Int) < 2 by decide) h1.pos
    have b := Int.mul_pos a h2.pos
    omega
  have e1 := mul_ok h1.s1 h2.s2
  have e2 := mul_ok h2.s1 h1.s2
  have e3 := mul_ok s2 h1.s2
  have e4 := mul_ok (s2.mul h1.s2) h2.s2
  have e5 := law_low_ok (a := p.1.1 * p.2.2 + p.2.1 * p.1.2) hp (((s2.mul h1.s2).mul h2.s2).mono (by decide))
  unfold e_mid
  simp only [r_call, r_cons, r_nil, r_bin, r_ix, h11, h12, r_c, pure_bind, ix_pr0, ix_pr1, e1, e2, e3, e4, ofOpt_some, DL.add_int, e5]
  rfl
theorem lc_mid {ρ : Sls} (hρ : 12 < ρ.length) : ∀ (ps : List (Q2 × Q2)) (acc : List Q2), (∀ p ∈ ps, VQ 400 p.1 ∧ VQ 400 p.2) → acc.length + ps.length ≤ 1000 →
    lcGo [11, 12] (tgT 2 (tgsCons (tgN 11) (tgsCons (tgN 12) tgsNil))) cYes e_mid ρ (ps.map fun p => .tup [pr p.1, pr p.2]) (acc.map pr) = pure ((acc ++ ps.map mid).map pr)
  | [], acc, _, _ => by simp [lcGo]
  | p :: ps, acc, h, hl => by
    have hx : (p :: ps).length = ps.length + 1 := rfl
    have c1 : ofOpt ((tgT 2 (tgsCons (tgN 11) (tgsCons (tgN 12) tgsNil)) (.tup [pr p.1, pr p.2])).bind fun as => setsS (wipeS ρ [11, 12]) as) = pure ((((ρ.set 12 .no).set 11 .no).set 11 (.val (pr p.1))).set 12 (.val (pr p.2))) := by
      have e : tgT 2 (tgsCons (tgN 11) (tgsCons (tgN 12) tgsNil)) (.tup [pr p.1, pr p.2]) = some [(11, pr p.1), (12, pr p.2)] := rfl
      rw [e]
      simp only [Option.bind_some, sets_cons, sets_nil, wipeS, List.length_set, if_pos hρ, if_pos (show 11 < ρ.length by omega), ofOpt_some]
    have g12 : eVar 12 ((((ρ.set 12 .no).set 11 .no).set 11 (.val (pr p.1))).set 12 (.val (pr p.2))) = pure (pr p.2) := by
      rw [r_var, List.getElem?_set_self (by simp only [List.length_set]; exact hρ)]
      rfl
    have g11 : eVar 11 ((((ρ.set 12 .no).set 11 .no).set 11 (.val (pr p.1))).set 12 (.val (pr p.2))) = pure (pr p.1) := by
      rw [r_var, List.getElem?_set_ne (by decide), List.getElem?_set_self (by simp only [List.length_set]; omega)]
      rfl
    obtain ⟨v1, v2⟩ := h p (.head _)
    have t := mid_one v1 v2 g11 g12
    have ih := lc_mid hρ ps (acc ++ [mid p]) (fun x hx => h x (.tail _ hx)) (by rw [List.length_append]; simp; omega)
    rw [List.map_cons]
    unfold lcGo
    rw [c1]
    simp only [pure_bind, r_yes, nox_pure, if_true, t]
    rw [if_pos (by rw [List.length_map]; omega)]
    simp only [List.map_append, List.map_cons, List.map_nil, List.append_assoc, List.cons_append, List.nil_append] at ih
    simp only [List.map_append, List.map_cons]
    exact ih
theorem zip_eq : ∀ (xs ys : List Q2), zipL (xs.map pr) (ys.map pr) = (xs.zip ys).map fun p => .tup [pr p.1, pr p.2]
  | [], _ => rfl
  | x :: xs, [] => rfl
  | x :: xs, y :: ys => by
    show .tup [pr x, pr y] :: zipL (xs.map pr) (ys.map pr) = _
    rw [zip_eq xs ys]
    rfl
theorem zip_st : ∀ (es : List E2), zipL (es.map st) (es.map enp) = es.map fun a => .tup [st a, enp a]
  | [] => rfl
  | a :: es => by
    show .tup [st a, enp a] :: zipL (es.map st) (es.map enp) = _
    rw [zip_st es]
    rfl
/-! ### the law -/
theorem vq01 : VQ 400 (0, 1) := ⟨by decide, by decide, sm0, show Sm 400 1 by unfold Sm; decide +kernel⟩
theorem g0_ok {ns : List Int} {ω ω1 : Om} {L : D} (e1 : (m__law_numbers [.box]).run ω = .ok L ω1) : lw0 [.val (.scr ns), .val .box, .no, .no, .no, .no, .no, .no, .no, .no, .no, .no, .no, .no, .no, .no, .no] ω = .nx [.val (.scr ns), .val .box, .val L, .no, .no, .no, .no, .no, .no, .no, .no, .no, .no, .no, .no, .no, .no] ω1 := by
  unfold lw0
  exact (asg_ok (d := L) (ω' := ω1) (by simp [e1]) (by simp)).trans rfl
theorem g1_ok {ns : List Int} {ω ω1 ω2 : Om} {L : D} {r : Int} {xs ds : List D} (er : rngO [.int r] = some xs) (e2 : (m__law_from [.box, .int 3, .int 5]).run ω = .ok (.int r) ω1) (e3 : (lcGo [4] (tgN 4) cYes (eCall m__law_ends (aCons (eVar 1) (aCons (eVar 2) aNil))) [.val (.scr ns), .val .box, .val L, .no, .no, .no, .no, .no, .no, .no, .no, .no, .no, .no, .no, .no, .no] xs []).run ω1 = .ok ds ω2) :
    lw1 [.val (.scr ns), .val .box, .val L, .no, .no, .no, .no, .no, .no, .no, .no, .no, .no, .no, .no, .no, .no] ω = .nx [.val (.scr ns), .val .box, .val L, .own (.lst ds), .no, .no, .no, .no, .no, .no, .no, .no, .no, .no, .no, .no, .no] ω2 := by
  unfold lw1
  rw [k_new, k_eva]
  have hv : vis [] [Sl.val (.scr ns), .val .box, .val L, .no, .no, .no, .no, .no, .no, .no, .no, .no, .no, .no, .no, .no, .no] = [.val (.scr ns), .val .box, .val L, .no, .no, .no, .no, .no, .no, .no, .no, .no, .no, .no, .no, .no, .no] := rfl
  rw [hv]
  have hi : (iRng1 (aCons (eCall m__law_from (aCons (eVar 1) (aCons (eC (.int 3)) (aCons (eC (.int 5)) aNil)))) aNil) [.val (.scr ns), .val .box, .val L, .no, .no, .no, .no, .no, .no, .no, .no, .no, .no, .no, .no, .no, .no]).run ω = .ok xs ω1 := by
    simp [M.bind_run, map_run, e2, er]
  rw [r_eLC, M.bind_run, hi]
  dsimp only
  rw [e3]
  dsimp only
  simp only [frz_e, k_newK]
  split <;> rfl
theorem lw4_eq : lw4 = sAsg [] (eL (lCat (eVar 2) (eL (eLC (iZip2 (aCons (eVar 2) (aCons (eL (lCat (eSl (eVar 2) (oSo (eC (.int 1))) oNo) (eLst (aCons (eTup (aCons (eC (.int 0)) (aCons (eC (.int 1)) aNil))) aNil)))) aNil))) [11, 12] (tgT 2 (tgsCons (tgN 11) (tgsCons (tgN 12) tgsNil))) cYes e_mid)))) (tgN 10) := rfl
theorem g4_ok {ns : List Int} {ω : Om} {q : Q2} {qs' : List Q2} {zs : List (Q2 × Q2)} {E M : D} {r6 r7 r8 : Sl} (hz : zs = (q :: qs').zip (qs' ++ [((0, 1) : Q2)])) (hzv : ∀ p ∈ zs, VQ 400 p.1 ∧ VQ 400 p.2) (hzl : zs.length ≤ 10) (hql : (q :: qs').length ≤ 10) :
    lw4 [.val (.scr ns), .val .box, .val (.lst ((q :: qs').map pr)), .val E, .no, .own M, r6, r7, r8, .no, .no, .no, .no, .no, .no, .no, .no] ω = .nx [.val (.scr ns), .val .box, .val (.lst ((q :: qs').map pr)), .val E, .no, .own M, r6, r7, r8, .no, .val (.lst ((q :: qs').map pr ++ (zs.map mid).map pr)), .no, .no, .no, .no, .no, .no] ω := by
  rw [lw4_eq]
  have hsl : slD (.lst ((q :: qs').map pr)) (some 1) none = some (.lst (qs'.map pr)) := by
    show some (D.lst (cutL ((q :: qs').map pr) (some 1) none)) = _
    unfold cutL
    have e1 : HT.sIx ((q :: qs').map pr).length 0 (some 1) = 1 := by
      have := HT.sIx_nat ((q :: qs').map pr).length 0 1
      rw [show (some ((1 : Nat) : Int)) = some (1 : Int) from rfl] at this
      rw [this]; simp
    rw [e1, HT.sIx_none]
    congr 2
    simp
    exact List.take_of_length_le (by simp)
  have hz2 : zipO [.lst ((q :: qs').map pr), .lst (qs'.map pr ++ [pr (0, 1)])] = some (zs.map fun p => .tup [pr p.1, pr p.2]) := by
    have e : qs'.map pr ++ [pr (0, 1)] = (qs' ++ [((0, 1) : Q2)]).map pr := by simp
    rw [e]
    show some (zipL _ _) = _
    rw [zip_eq, hz]
  obtain ⟨ρ, hρ⟩ : ∃ ρ, ρ = vis [] [Sl.val (.scr ns), .val .box, .val (.lst ((q :: qs').map pr)), .val E, .no, .own M, r6, r7, r8, .no, .no, .no, .no, .no, .no, .no, .no] := ⟨_, rfl⟩
  have hlen : ρ.length = 17 := by rw [hρ]; rfl
  have h2 : eVar 2 ρ = pure (.lst ((q :: qs').map pr)) := by rw [hρ]; rfl
  have hl1 : (qs'.map pr).length + 1 ≤ 16000000 := by rw [List.length_map]; simp at hql; omega
  have e01 : D.tup [.int 0, .int 1] = pr (0, 1) := rfl
  have hm := lc_mid (ρ := ρ) (by omega) zs [] hzv (by simp; omega)
  rw [List.map_nil, List.nil_append] at hm
  have hcat : eL (lCat (eSl (eVar 2) (oSo (eC (.int 1))) oNo) (eLst (aCons (eTup (aCons (eC (.int 0)) (aCons (eC (.int 1)) aNil))) aNil))) ρ = pure (.lst (qs'.map pr ++ [pr (0, 1)])) := by
    simp only [r_eL, r_cat, r_sl, h2, pure_bind, r_so, r_c, ofOpt_some, r_no, hsl, r_lst, r_cons, r_tup, r_nil, List.length_cons, List.length_nil]
    rw [if_pos (by decide)]
    simp only [ofOpt_some, pure_bind, e01, List.length_cons, List.length_nil]
    rw [if_pos (by decide)]
    simp only [ofOpt_some, pure_bind, List.length_cons, List.length_nil]
    rw [if_pos hl1]
    rfl
  have hval : eL (lCat (eVar 2) (eL (eLC (iZip2 (aCons (eVar 2) (aCons (eL (lCat (eSl (eVar 2) (oSo (eC (.int 1))) oNo) (eLst (aCons (eTup (aCons (eC (.int 0)) (aCons (eC (.int 1)) aNil))) aNil)))) aNil))) [11, 12] (tgT 2 (tgsCons (tgN 11) (tgsCons (tgN 12) tgsNil))) cYes e_mid))) ρ = pure (.lst ((q :: qs').map pr ++ (zs.map mid).map pr)) := by
    rw [r_eL, r_cat, h2, pure_bind, r_eL, r_eLC, r_zip, r_cons, h2, pure_bind, r_cons, hcat]
    simp only [pure_bind, r_nil, hz2, ofOpt_some, hm]
    rw [if_pos]
    · rfl
    · rw [List.length_map, List.length_map, List.length_map]; omega
  exact (asg_ok (d := .lst ((q :: qs').map pr ++ (zs.map mid).map pr)) (ω' := ω) (by rw [← hρ, hval]; rfl) (by simp)).trans rfl
theorem sm_bits {i : Int} {k : Nat} (h1 : Builtin.Int.intBits i ≤ k) : Sm k i := by
  unfold Sm
  unfold Builtin.Int.intBits at h1
  by_cases z : i = 0
  · subst z; exact Nat.two_pow_pos _
  · have hz : (i == 0) = false := by simpa using z
    rw [hz] at h1
    simp only [Bool.false_eq_true, if_false] at h1
    have h0 : i.natAbs ≠ 0 := by omega
    exact (Nat.log2_lt h0).mp (by omega)
theorem box0 {ns : List Int} {m : Int} (hb : ∀ z ∈ ns, Builtin.Int.intBits z ≤ 1048576) (m1 : 0 ≤ m) (m2 : m < 2147483563) : BX 0 (ns.take 63, [0, 0, m, 0, 0]) := ⟨ns.take 63, 0, 0, m, 0, 0, rfl, by omega, by omega, sm0, fun i hi => sm_bits (hb i (List.mem_of_mem_take hi)), m1, m2, by omega, by omega⟩
theorem law_ok (ns : List Int) (hb : ∀ z ∈ ns, Builtin.Int.intBits z ≤ 1048576) : m_law ns = some true := by
  -- the box
  obtain ⟨m, m1, m2, eb⟩ := box_ok ns
  have intsD_map : ∀ l : List Int, intsD (l.map D.int) = some l := fun l => by
    induction l with
    | nil => rfl
    | cons a r ih => show (intsD (r.map D.int)).map (a :: ·) = _; rw [ih]; rfl
  have hbox : boxOf (.lst [.lst ((ns.take 63).map D.int), .int 0, .int 0, .int m, .int 0, .int 0]) = some (ns.take 63, [0, 0, m, 0, 0]) := by
    show (intsD ((ns.take 63).map D.int)).bind (fun is => (intsD [.int 0, .int 0, .int m, .int 0, .int 0]).map fun js => (is, js)) = _
    rw [intsD_map]; rfl
  have b0 := box0 hb m1 m2
  -- what is drawn
  obtain ⟨qs, ω1, hq, hne, hql, b1, e1⟩ := numbers_ok b0 (by omega)
  obtain ⟨r, ω2, e2, r1, r2, b2⟩ := from_ok (a := 3) (b := 5) b1 (by omega) (by decide) (by decide)
  obtain ⟨rn, rfl⟩ : ∃ n : Nat, r = n := ⟨r.toNat, by omega⟩
  obtain ⟨es, ω3, he, hel, b3, e3⟩ := lc_ends hq hne (by omega) (s0 := .val (.scr ns)) (ss := List.replicate 12 .no) ((List.range rn).map fun i : Nat => D.int i) _ ω2 [] b2 (by simp; omega) (by simp; omega)
  simp only [List.length_map, List.length_range] at hel b3
  obtain ⟨q, qs', rfl⟩ : ∃ q qs', qs = q :: qs' := by
    cases qs with
    | nil => exact absurd rfl hne
    | cons q qs' => exact ⟨q, qs', rfl⟩
  obtain ⟨a, b, c, es', rfl⟩ : ∃ a b c es', es = a :: b :: c :: es' := by
    match es, hel with
    | [], h => simp at h; omega
    | [_], h => simp at h; omega
    | [_, _], h => simp at h; omega
    | a :: b :: c :: es', _ => exact ⟨a, b, c, es', rfl⟩
  have hE : ∀ x ∈ a :: b :: c :: es', VE 1900 x := fun x hx => (he x hx).up
  obtain ⟨r6, r7, r8, ω4, b4, e4⟩ := made_loop (a :: b :: c :: es') (ms := []) (s0 := .val (.scr ns)) (s2 := .val (.lst ((q :: qs').map pr))) (s3 := .val (.lst ((a :: b :: c :: es').map enp))) (s4 := .no) (s6 := .no) (s7 := .no) (s8 := .no) (s9 := .no) (s10 := .no) (s11 := .no) (s12 := .no) (s13 := .no) (s14 := .no) (s15 := .no) (s16 := .no) b3 (by simp at hel ⊢; omega) he (by simp at hel ⊢; omega)
  rw [List.nil_append] at e4
  have hq0 : VQ 400 q := hq q (.head _)
  -- the middles
  obtain ⟨zs, hz⟩ : ∃ zs, zs = (q :: qs').zip (qs' ++ [((0, 1) : Q2)]) := ⟨_, rfl⟩
  have hzv : ∀ p ∈ zs, VQ 400 p.1 ∧ VQ 400 p.2 := fun p hp => by
    rw [hz] at hp
    obtain ⟨h1, h2⟩ := List.of_mem_zip (show (p.1, p.2) ∈ _ from hp)
    refine ⟨hq _ h1, ?_⟩
    rcases List.mem_append.mp h2 with h3 | h3
    · exact hq _ (.tail _ h3)
    · rw [List.mem_singleton.mp h3]; exact vq01
  have hzl : zs.length ≤ 10 := by
    rw [hz, List.length_zip]
    exact Nat.le_trans (Nat.min_le_left _ _) hql
  obtain ⟨xs, hxs⟩ : ∃ xs, xs = (q :: qs').map pr ++ (zs.map mid).map pr := ⟨_, rfl⟩
  have hmem : ∀ x ∈ xs, Mem x := fun x hx => by
    rw [hxs] at hx
    rcases List.mem_append.mp hx with h1 | h1
    · obtain ⟨y, hy, rfl⟩ := List.mem_map.mp h1
      exact .inl ⟨y, rfl, VQ.lq (hq y hy) (by decide)⟩
    · obtain ⟨y, hy, rfl⟩ := List.mem_map.mp h1
      obtain ⟨p, hp, rfl⟩ := List.mem_map.mp hy
      exact .inl ⟨mid p, rfl, VQ.lq (mid_VQ (hzv p hp).1 (hzv p hp).2) (Nat.le_refl _)⟩
  have hxl : xs.length ≤ 1000 := by
    rw [hxs, List.length_append, List.length_map, List.length_map, List.length_map]
    omega
  obtain ⟨q6, q13, q14, e5⟩ := check_loop (ω := ω4) (qs := qs') (s0 := .val (.scr ns)) (s1 := .val .box) (s3 := .val (.lst ((a :: b :: c :: es').map enp))) (s4 := .no) (s5 := .val (.lst ((a :: b :: c :: es').map st))) (s7 := r7) (s8 := r8) (s9 := .no) (s11 := .no) (s12 := .no) (s15 := .no) (s16 := .no) hq0 hmem hxl (a :: b :: c :: es') r6 .no .no hE
  obtain ⟨p4, p15, e6⟩ := all_loop (ω := ω4) (s0 := .val (.scr ns)) (s1 := .val .box) (s2 := .val (.lst ((q :: qs').map pr))) (s6 := q6) (s7 := r7) (s8 := r8) (s9 := .no) (s10 := .val (.lst xs)) (s11 := .no) (s12 := .no) (s13 := q13) (s14 := q14) (s16 := .no) hE (by simp at hel ⊢; omega) (List.range (a :: b :: c :: es').length) .no .no fun j hj => List.mem_range.mp hj
  -- the two numbers of the texts
  obtain ⟨q2, hq2⟩ : ∃ q2, q2 = lowQ (q.1 * 1 + 1 * q.2) (q.2 * 1) := ⟨_, rfl⟩
  have hq2v : VQ 1800 q2 := by
    rw [hq2]
    have := hq0.pos
    rw [Int.mul_one, Int.one_mul, Int.mul_one]
    exact lowQ_valid (by omega) ((Sm.add hq0.s1 hq0.s2).mono (by decide)) (hq0.s2.mono (by decide))
  have hlt : ltQ q q2 := by
    have hp := hq0.pos
    rw [hq2, ltQ_low_right (by omega)]
    show q.1 * (q.2 * 1) < (q.1 * 1 + 1 * q.2) * q.2
    rw [Int.mul_one, Int.mul_one, Int.one_mul, Int.add_mul]
    have := Int.mul_pos hp hp
    omega
  obtain ⟨ω5, b5, e7⟩ := text_refused_ok b4 (by simp at hel ⊢; omega) (hq0.mono (show 400 ≤ 1800 by decide)) hq2v hlt
  obtain ⟨ω6, e8⟩ := value_refused_ok (a := a) b5 (by simp at hel ⊢; omega)
  have e9 := three_right_ok (r := es') (hE a (by simp)) (hE b (by simp)) (hE c (by simp))
  have ep := law_plus_ok (a := q) (b := (1, 1)) (hq0.s1.mono (by decide)) (hq0.s2.mono (by decide)) (show Sm 2000 1 by unfold Sm; decide +kernel) (show Sm 2000 1 by unfold Sm; decide +kernel) hq0.pos (show (0 : Int) < 1 by decide)
  rw [show lowQ (q.1 * (1, 1).2 + (1, 1).1 * q.2) (q.2 * (1, 1).2) = q2 from hq2.symm] at ep
  obtain ⟨E, hEE⟩ : ∃ E, E = a :: b :: c :: es' := ⟨_, rfl⟩
  have hEl : E.length ≤ 5 := by rw [hEE, hel]; omega
  -- the chain
  have main : s_law [.val (.scr ns), .val .box, .no, .no, .no, .no, .no, .no, .no, .no, .no, .no, .no, .no, .no, .no, .no] (ns.take 63, [0, 0, m, 0, 0]) = .rt (.bl true) ω6 := by
    rw [lw_all]
    have g0 := g0_ok (ns := ns) e1
    rw [seq_nx g0]
    have e3' : (lcGo [4] (tgN 4) cYes (eCall m__law_ends (aCons (eVar 1) (aCons (eVar 2) aNil))) [.val (.scr ns), .val .box, .val (.lst ((q :: qs').map pr)), .no, .no, .no, .no, .no, .no, .no, .no, .no, .no, .no, .no, .no, .no] ((List.range rn).map fun i : Nat => D.int i) []).run ω2 = .ok (E.map enp) ω3 := by
      rw [hEE]
      exact e3
    have g1 := g1_ok (rng1_ok (n := rn) (by omega)) e2 e3'
    rw [seq_nx g1]
    have g2 : lw2 [.val (.scr ns), .val .box, .val (.lst ((q :: qs').map pr)), .own (.lst (E.map enp)), .no, .no, .no, .no, .no, .no, .no, .no, .no, .no, .no, .no, .no] ω3 = .nx [.val (.scr ns), .val .box, .val (.lst ((q :: qs').map pr)), .own (.lst (E.map enp)), .no, .own (.lst []), .no, .no, .no, .no, .no, .no, .no, .no, .no, .no, .no] ω3 := by
      unfold lw2
      simp
    rw [seq_nx g2]
    have g3 : lw3 [.val (.scr ns), .val .box, .val (.lst ((q :: qs').map pr)), .own (.lst (E.map enp)), .no, .own (.lst []), .no, .no, .no, .no, .no, .no, .no, .no, .no, .no, .no] ω3 = .nx [.val (.scr ns), .val .box, .val (.lst ((q :: qs').map pr)), .val (.lst (E.map enp)), .no, .own (.lst (E.map st)), r6, r7, r8, .no, .no, .no, .no, .no, .no, .no, .no] ω4 := by
      unfold lw3
      rw [k_for]
      have hi : iVal (eVar 3) (vis [3] [.val (.scr ns), .val .box, .val (.lst ((q :: qs').map pr)), .own (.lst (E.map enp)), .no, .own (.lst []), .no, .no, .no, .no, .no, .no, .no, .no, .no, .no, .no]) = pure (E.map enp) := by
        generalize E.map enp = B
        simp
      rw [hi, run_pure]
      dsimp only
      have hf : frz [3] [.val (.scr ns), .val .box, .val (.lst ((q :: qs').map pr)), .own (.lst (E.map enp)), .no, .own (.lst []), .no, .no, .no, .no, .no, .no, .no, .no, .no, .no, .no] = [.val (.scr ns), .val .box, .val (.lst ((q :: qs').map pr)), .val (.lst (E.map enp)), .no, .own (.lst []), .no, .no, .no, .no, .no, .no, .no, .no, .no, .no, .no] := by
        generalize E.map enp = B
        simp [frz]
      rw [hf, hEE]
      rw [List.map_nil] at e4
      exact e4
    rw [seq_nx g3]
    have g4 := g4_ok (E := .lst (E.map enp)) (M := .lst (E.map st)) (r6 := r6) (r7 := r7) (r8 := r8) (ns := ns) (ω := ω4) (q := q) (qs' := qs') (zs := zs) hz hzv hzl hql
    rw [← hxs] at g4
    rw [seq_nx g4]
    have g5 : lw5 [.val (.scr ns), .val .box, .val (.lst ((q :: qs').map pr)), .val (.lst (E.map enp)), .no, .own (.lst (E.map st)), r6, r7, r8, .no, .val (.lst xs), .no, .no, .no, .no, .no, .no] ω4 = .nx [.val (.scr ns), .val .box, .val (.lst ((q :: qs').map pr)), .val (.lst (E.map enp)), .no, .val (.lst (E.map st)), q6, r7, r8, .no, .val (.lst xs), .no, .no, q13, q14, .no, .no] ω4 := by
      unfold lw5
      rw [k_for]
      have hi : iZip2 (aCons (eVar 5) (aCons (eVar 3) aNil)) (vis [3, 5] [.val (.scr ns), .val .box, .val (.lst ((q :: qs').map pr)), .val (.lst (E.map enp)), .no, .own (.lst (E.map st)), r6, r7, r8, .no, .val (.lst xs), .no, .no, .no, .no, .no, .no]) = pure (E.map fun a => .tup [st a, enp a]) := by
        have hz : zipO [.lst (E.map st), .lst (E.map enp)] = some (E.map fun a => .tup [st a, enp a]) := congrArg some (zip_st E)
        simp [hz]
      rw [hi, run_pure]
      dsimp only
      have hf : frz [3, 5] [.val (.scr ns), .val .box, .val (.lst ((q :: qs').map pr)), .val (.lst (E.map enp)), .no, .own (.lst (E.map st)), r6, r7, r8, .no, .val (.lst xs), .no, .no, .no, .no, .no, .no] = [.val (.scr ns), .val .box, .val (.lst ((q :: qs').map pr)), .val (.lst (E.map enp)), .no, .val (.lst (E.map st)), r6, r7, r8, .no, .val (.lst xs), .no, .no, .no, .no, .no, .no] := by
        simp [frz]
      rw [hf, hEE]
      exact e5
    rw [seq_nx g5]
    have g6 : lw6 [.val (.scr ns), .val .box, .val (.lst ((q :: qs').map pr)), .val (.lst (E.map enp)), .no, .val (.lst (E.map st)), q6, r7, r8, .no, .val (.lst xs), .no, .no, q13, q14, .no, .no] ω4 = .nx [.val (.scr ns), .val .box, .val (.lst ((q :: qs').map pr)), .val (.lst (E.map enp)), p4, .val (.lst (E.map st)), q6, r7, r8, .no, .val (.lst xs), .no, .no, q13, q14, p15, .no] ω4 := by
      unfold lw6
      rw [k_for]
      have er := rng1_ok (n := E.length) (by omega)
      have hi : iRng1 (aCons (eCB lenO (aCons (eVar 5) aNil)) aNil) (vis [5] [.val (.scr ns), .val .box, .val (.lst ((q :: qs').map pr)), .val (.lst (E.map enp)), .no, .val (.lst (E.map st)), q6, r7, r8, .no, .val (.lst xs), .no, .no, q13, q14, .no, .no]) = pure ((List.range E.length).map fun i : Nat => D.int i) := by
        simp [er]
      rw [hi, run_pure]
      dsimp only
      have hf : frz [5] [.val (.scr ns), .val .box, .val (.lst ((q :: qs').map pr)), .val (.lst (E.map enp)), .no, .val (.lst (E.map st)), q6, r7, r8, .no, .val (.lst xs), .no, .no, q13, q14, .no, .no] = [.val (.scr ns), .val .box, .val (.lst ((q :: qs').map pr)), .val (.lst (E.map enp)), .no, .val (.lst (E.map st)), q6, r7, r8, .no, .val (.lst xs), .no, .no, q13, q14, .no, .no] := by
        simp [frz]
      rw [hf, hEE]
      exact e6
    rw [seq_nx g6]
    have g7 : lw7 [.val (.scr ns), .val .box, .val (.lst ((q :: qs').map pr)), .val (.lst (E.map enp)), p4, .val (.lst (E.map st)), q6, r7, r8, .no, .val (.lst xs), .no, .no, q13, q14, p15, .no] ω4 = .nx [.val (.scr ns), .val .box, .val (.lst ((q :: qs').map pr)), .val (.lst (E.map enp)), p4, .val (.lst (E.map st)), q6, r7, r8, .no, .val (.lst xs), .no, .no, q13, q14, p15, .val (.lst [pr q, pr q2])] ω4 := by
      unfold lw7
      have e11 : D.tup [.int 1, .int 1] = pr (1, 1) := rfl
      refine (asg_ok (d := .lst [pr q, pr q2]) (ω' := ω4) ?_ (by simp)).trans rfl
      simp [e11, ep]
    rw [seq_nx g7]
    have g8 : lw8 [.val (.scr ns), .val .box, .val (.lst ((q :: qs').map pr)), .val (.lst (E.map enp)), p4, .val (.lst (E.map st)), q6, r7, r8, .no, .val (.lst xs), .no, .no, q13, q14, p15, .val (.lst [pr q, pr q2])] ω4 = .nx [.val (.scr ns), .val .box, .val (.lst ((q :: qs').map pr)), .val (.lst (E.map enp)), p4, .val (.lst (E.map st)), q6, r7, r8, .no, .val (.lst xs), .no, .no, q13, q14, p15, .val (.lst [pr q, pr q2])] ω5 := by
      unfold lw8
      rw [hEE]
      generalize D.lst ((a :: b :: c :: es').map st) = A at *
      generalize D.lst ((a :: b :: c :: es').map enp) = B at *
      simp [M.bind_run, map_run, e9, e7]
    rw [seq_nx g8]
    unfold lw9
    have hA : ixM (.lst (E.map st)) (.int 0) = pure (st a) := by rw [hEE]; simp
    generalize D.lst (E.map st) = A at *
    simp [M.bind_run, hA, e8]
  unfold m_law lawM
  have hfirst : (eCall m__law_box (aCons (eVar 0) aNil) (startS 17 [.scr ns])).run ([], []) = .ok (.lst [.lst ((ns.take 63).map D.int), .int 0, .int 0, .int m, .int 0, .int 0]) ([], []) := by
    simp only [startS, r_call, r_cons, r_nil, r_var]
    show (m__law_box [.scr ns]).run ([], []) = _
    rw [eb]; rfl
  rw [hfirst]
  dsimp only
  rw [hbox, Option.bind_some, if_pos (by decide)]
  have hstart : (startS 17 [.scr ns]).set 1 (.val .box) = [.val (.scr ns), .val .box, .no, .no, .no, .no, .no, .no, .no, .no, .no, .no, .no, .no, .no, .no, .no] := rfl
  rw [hstart, main]
end K06
end

section
set_option Elab.async false
set_option linter.all false
set_option maxRecDepth 100000
set_option maxHeartbeats 0
set_option autoImplicit false
/-! K06E: the head of k06. -/
namespace K06
open PySem PySem.Spec PyProof.Rows L2 DL
def mkD (i : Nat) (n : Str) : He.DefD := ⟨(n, none), n, n, defArgs (top i), defBody (top i), defScope (top i), [], []⟩
def mkM (i j : Nat) (c n q : Str) : He.DefD := ⟨(c, some n), n, q, defArgs (inClass (top i) j), defBody (inClass (top i) j), defScope (inClass (top i) j), [], []⟩
def hfn : List He.DefD := ([mkD 7 "is_integer", mkD 8 "is_fraction", mkD 9 "lowest", mkD 10 "pair_of", mkD 11 "sign_of", mkD 12 "order_of", mkD 13 "integer_text", mkD 14 "integer_from", mkD 15 "pair_text", mkD 16 "pair_from", mkD 18 "taken", mkD 20 "_end_text", mkD 21 "_ends_from", mkM 19 0 "Stretch" "__init__" "Stretch.__init__", mkM 19 1 "Stretch" "__contains__" "Stretch.__contains__", mkM 19 2 "Stretch" "__eq__" "Stretch.__eq__", mkD 22 "stretch_of", mkM 19 3 "Stretch" "within" "Stretch.within", mkM 19 4 "Stretch" "hull" "Stretch.hull", mkM 19 5 "Stretch" "shared" "Stretch.shared", mkD 24 "_law_box", mkD 25 "_law_draw", mkD 26 "_law_from", mkD 27 "_law_of", mkD 28 "_law_gcd", mkD 29 "_law_low", mkD 30 "_law_plus", mkD 31 "_law_sign", mkD 32 "_law_order", mkD 33 "_law_text"] : List He.DefD) ++ ([mkD 34 "_law_whole", mkD 35 "_law_pair", mkD 36 "_law_truth", mkD 37 "_law_numbers", mkD 38 "_law_ends", mkD 39 "_law_below", mkD 40 "_law_above", mkD 41 "_law_hull", mkD 42 "_law_shared", mkD 43 "_law_holds", mkD 44 "_law_written", mkD 45 "_law_right", mkD 46 "_law_two_right", mkD 47 "_law_three_right", mkD 48 "_law_text_refused", mkD 49 "_law_value_refused", mkD 50 "law", mkM 3 0 "BadNumber" "__init__" "BadNumber.__init__", mkM 4 0 "BadStretch" "__init__" "BadStretch.__init__"] : List He.DefD)
def hfa : List He.Fa := ([.glo "is_integer", .glo "is_fraction", .glo "lowest", .glo "pair_of", .glo "sign_of", .glo "order_of", .glo "integer_text", .glo "integer_from", .glo "pair_text", .glo "pair_from", .glo "taken", .glo "_end_text", .glo "_ends_from", .meth "Stretch" "__contains__", .meth "Stretch" "__eq__", .glo "stretch_of", .meth "Stretch" "within", .meth "Stretch" "hull", .meth "Stretch" "shared", .glo "_law_box", .glo "_law_draw", .glo "_law_from", .glo "_law_of", .glo "_law_gcd", .glo "_law_low", .glo "_law_plus", .glo "_law_sign", .glo "_law_order", .glo "_law_text", .glo "_law_whole"] : List He.Fa) ++ ([.glo "_law_pair", .glo "_law_truth", .glo "_law_numbers", .glo "_law_ends", .glo "_law_below", .glo "_law_above", .glo "_law_hull", .glo "_law_shared", .glo "_law_holds", .glo "_law_written", .glo "_law_right", .glo "_law_two_right", .glo "_law_three_right", .glo "_law_text_refused", .glo "_law_value_refused", .glo "law", .glo "BadNumber", .glo "BadStretch", .glo "Stretch", .cls "Stretch", .mkr "Stretch", .noat "Stretch" "low", .noat "Stretch" "high", .noat "Stretch" "text", .free "abs", .free "bool", .free "int", .free "isinstance", .free "len", .free "list"] : List He.Fa) ++ ([.free "range", .free "str", .free "tuple", .free "zip", .int "CHUNK" 1000000000000000000000000000000000000000000000000000000000000, .exm "BadNumber" "BadNumber" true, .exm "BadNumber" "BadStretch" false, .exm "BadStretch" "BadNumber" false, .exm "BadStretch" "BadStretch" true] : List He.Fa)
def hxs : XSpec := ⟨["Stretch"], [("BadNumber", ["text", "why"]), ("BadStretch", ["text", "why"])], [("gcd", "math.gcd")]⟩
abbrev hR : PySem.W.OpenRow := PySem.W.OpenLaw.row PySem.Challenge.rw_stillabove_k06_stretches_as_sets
abbrev hhk : PySem.W.Hook := hookX hxs 6 hfa hfn
def hob (s : PySem.W.SharedT) : AlX := obsXG hxs 6 hfa hfn (HandSHeadRun.getT s)
theorem hob_eq (s : PySem.W.SharedT) : hob s = hhk.obs s.abs := obsXG_eq (HandSHeadRun.getT_eq s)
def hloose : List Str := (["StillError", "BadNumber", "BadStretch", "CHUNK", "is_integer", "is_fraction", "lowest", "pair_of", "sign_of", "order_of", "integer_text", "integer_from", "pair_text", "pair_from", "taken", "Stretch", "_end_text", "_ends_from", "stretch_of", "_law_box", "_law_draw", "_law_from", "_law_of", "_law_gcd", "_law_low", "_law_plus", "_law_sign", "_law_order", "_law_text", "_law_whole"] : List Str) ++ (["_law_pair", "_law_truth", "_law_numbers", "_law_ends", "_law_below", "_law_above", "_law_hull", "_law_shared", "_law_holds", "_law_written", "_law_right", "_law_two_right", "_law_three_right", "_law_text_refused", "_law_value_refused"] : List Str)
theorem hrun (w : World) : HandSHeadRun.RunEqI hR (PySem.W.view hR.prog [0, 50]) hhk hob 5500 hloose w := by
  unfold HandSHeadRun.RunEqI
  kernel_rfl
section
variable {P : Program} {w : World} {K : PySem.W.Frag} {mg : Mg} {base h : Heap}
def tb3 : List Str := ["low", "high", "text"]
theorem tb_look {c : Str} {fs : List Str} (e : Tb.lookup c = some fs) : c = "Stretch" ∧ fs = tb3 := by
  have e2 : (match c == ("Stretch" : Str) with | true => some tb3 | false => none) = some fs := e
  cases q : c == ("Stretch" : Str) with
  | true => rw [q] at e2; exact ⟨beq_iff_eq.mp q, (Option.some.inj e2).symm⟩
  | false => rw [q] at e2; cases e2
theorem tb_some {c : Str} (e : (Tb.lookup c).isSome = true) : c = "Stretch" := by
  obtain ⟨fs, q⟩ := Option.isSome_iff_exists.mp e
  exact (tb_look q).1
theorem facts_ok (X : K.In h) (G : h.Ns mainGlobals mg) (c : SaysX hxs hfa hfn K) : Facts P w K mg base := by
  obtain ⟨hx1, hx2⟩ := two_ c.x
  obtain ⟨hx2, hx3⟩ := two_ hx2
  have hcf := List.all_eq_true.mp hx1 "Stretch" (List.mem_of_getElem? (i := 0) rfl)
  have hbl := List.all_eq_true.mp hx3 ("gcd", "math.gcd") (List.mem_of_getElem? (i := 0) rfl)
  have gS : mg "Stretch" = some (.ref (He.ga K "Stretch")) := He.glo_ok X G (c.d.fact 48 rfl)
  have kS : Cls K (He.ga K "Stretch") := He.cls_ok (c.d.fact 49 rfl)
  obtain ⟨cf, ck, cn, co⟩ := cf_ok (cs := ["Stretch"]) (fs := ["low", "high", "text"]) hcf kS (fun f hf => by
    simp only [List.mem_cons, List.not_mem_nil, or_false] at hf
    rcases hf with rfl | rfl | rfl
    · exact He.noat_ok (c.d.fact 51 rfl)
    · exact He.noat_ok (c.d.fact 52 rfl)
    · exact He.noat_ok (c.d.fact 53 rfl))
  have gBadNumber : mg "BadNumber" = some (.ref (He.ga K "BadNumber")) := He.glo_ok X G (c.d.fact 46 rfl)
  have xBadNumber : XkD P w K mg base 1 "BadNumber" ["text", "why"] := by
    have hb := List.all_eq_true.mp hx2 ("BadNumber", ["text", "why"]) (List.mem_of_getElem? (i := 0) rfl)
    obtain ⟨h1, h2, h3, h4, h5⟩ := oex_ok hb
    obtain ⟨fd, F⟩ := c.d.def_ 47 (d := mkM 3 0 "BadNumber" "__init__" "BadNumber.__init__") rfl
    exact ⟨_, _, fd, ["self", "text", "why"], gBadNumber, h1, h2, h3, xinit2 (k := 0) (N := ["self", "text", "why"]) F rfl ⟨rfl, rfl, rfl, by decide +kernel, rfl, by decide +kernel, by decide +kernel⟩, FunD.bindsN F fun _ _ _ _ _ _ us hl => match us, hl with | [_, _, _], _ => rfl, h4, h5⟩
  have gBadStretch : mg "BadStretch" = some (.ref (He.ga K "BadStretch")) := He.glo_ok X G (c.d.fact 47 rfl)
  have xBadStretch : XkD P w K mg base 1 "BadStretch" ["text", "why"] := by
    have hb := List.all_eq_true.mp hx2 ("BadStretch", ["text", "why"]) (List.mem_of_getElem? (i := 1) rfl)
    obtain ⟨h1, h2, h3, h4, h5⟩ := oex_ok hb
    obtain ⟨fd, F⟩ := c.d.def_ 48 (d := mkM 4 0 "BadStretch" "__init__" "BadStretch.__init__") rfl
    exact ⟨_, _, fd, ["self", "text", "why"], gBadStretch, h1, h2, h3, xinit2 (k := 0) (N := ["self", "text", "why"]) F rfl ⟨rfl, rfl, rfl, by decide +kernel, rfl, by decide +kernel, by decide +kernel⟩, FunD.bindsN F fun _ _ _ _ _ _ us hl => match us, hl with | [_, _, _], _ => rfl, h4, h5⟩
  exact {
    cls := ⟨fun c fs e => by obtain ⟨rfl, rfl⟩ := tb_look e; exact ⟨_, gS, cf⟩, fun c c' C C' e1 e2 e3 e4 => by
      have q1 := tb_some e1
      have q2 := tb_some e2
      subst q1; subst q2
      rw [gS] at e3 e4; cases e3; cases e4
      exact ck "Stretch" (List.mem_singleton.mpr rfl)⟩
    g_abs := He.free_ok X G (c.d.fact 54 rfl)
    g_bool := He.free_ok X G (c.d.fact 55 rfl)
    g_int := He.free_ok X G (c.d.fact 56 rfl)
    g_isinstance := He.free_ok X G (c.d.fact 57 rfl)
    g_len := He.free_ok X G (c.d.fact 58 rfl)
    g_list := He.free_ok X G (c.d.fact 59 rfl)
    g_range := He.free_ok X G (c.d.fact 60 rfl)
    g_str := He.free_ok X G (c.d.fact 61 rfl)
    g_tuple := He.free_ok X G (c.d.fact 62 rfl)
    g_zip := He.free_ok X G (c.d.fact 63 rfl)
    g_gcd := blt_ok X G hbl
    g_CHUNK := He.int_ok X G (c.d.fact 64 rfl)
    c_Stretch := ⟨_, gS⟩
    nf_Stretch := ⟨fun C e n hm => by rw [gS] at e; cases e; exact cn n hm, fun C c' C' e e1 e2 => by
      have q1 := tb_some e1
      subst q1
      rw [gS] at e e2; cases e; cases e2
      exact co "Stretch" (List.mem_singleton.mpr rfl)⟩
    x_BadNumber := xBadNumber
    xc_BadNumber := ⟨_, gBadNumber, He.exm_ok (c.d.fact 65 rfl), fun c' hm C' hC => by
      have q := List.mem_singleton.mp hm
      subst q
      rw [gBadStretch] at hC; cases hC
      exact He.exm_ok (c.d.fact 67 rfl)⟩
    x_BadStretch := xBadStretch
    xc_BadStretch := ⟨_, gBadStretch, He.exm_ok (c.d.fact 68 rfl), fun c' hm C' hC => by
      have q := List.mem_singleton.mp hm
      subst q
      rw [gBadNumber] at hC; cases hC
      exact He.exm_ok (c.d.fact 66 rfl)⟩
    f_is_integer := by obtain ⟨fd, F⟩ := c.d.def_ 0 (d := mkD 7 "is_integer") rfl; exact ⟨_, fd, He.glo_ok X G (c.d.fact 0 rfl), F⟩
    f_is_fraction := by obtain ⟨fd, F⟩ := c.d.def_ 1 (d := mkD 8 "is_fraction") rfl; exact ⟨_, fd, He.glo_ok X G (c.d.fact 1 rfl), F⟩
    f_lowest := by obtain ⟨fd, F⟩ := c.d.def_ 2 (d := mkD 9 "lowest") rfl; exact ⟨_, fd, He.glo_ok X G (c.d.fact 2 rfl), F⟩
    f_pair_of := by obtain ⟨fd, F⟩ := c.d.def_ 3 (d := mkD 10 "pair_of") rfl; exact ⟨_, fd, He.glo_ok X G (c.d.fact 3 rfl), F⟩
    f_sign_of := by obtain ⟨fd, F⟩ := c.d.def_ 4 (d := mkD 11 "sign_of") rfl; exact ⟨_, fd, He.glo_ok X G (c.d.fact 4 rfl), F⟩
    f_order_of := by obtain ⟨fd, F⟩ := c.d.def_ 5 (d := mkD 12 "order_of") rfl; exact ⟨_, fd, He.glo_ok X G (c.d.fact 5 rfl), F⟩
    f_integer_text := by obtain ⟨fd, F⟩ := c.d.def_ 6 (d := mkD 13 "integer_text") rfl; exact ⟨_, fd, He.glo_ok X G (c.d.fact 6 rfl), F⟩
    f_integer_from := by obtain ⟨fd, F⟩ := c.d.def_ 7 (d := mkD 14 "integer_from") rfl; exact ⟨_, fd, He.glo_ok X G (c.d.fact 7 rfl), F⟩
    f_pair_text := by obtain ⟨fd, F⟩ := c.d.def_ 8 (d := mkD 15 "pair_text") rfl; exact ⟨_, fd, He.glo_ok X G (c.d.fact 8 rfl), F⟩
    f_pair_from := by obtain ⟨fd, F⟩ := c.d.def_ 9 (d := mkD 16 "pair_from") rfl; exact ⟨_, fd, He.glo_ok X G (c.d.fact 9 rfl), F⟩
    f_taken := by obtain ⟨fd, F⟩ := c.d.def_ 10 (d := mkD 18 "taken") rfl; exact ⟨_, fd, He.glo_ok X G (c.d.fact 10 rfl), F⟩
    f__end_text := by obtain ⟨fd, F⟩ := c.d.def_ 11 (d := mkD 20 "_end_text") rfl; exact ⟨_, fd, He.glo_ok X G (c.d.fact 11 rfl), F⟩
    f__ends_from := by obtain ⟨fd, F⟩ := c.d.def_ 12 (d := mkD 21 "_ends_from") rfl; exact ⟨_, fd, He.glo_ok X G (c.d.fact 12 rfl), F⟩
    i_Stretch := by obtain ⟨fd, F⟩ := c.d.def_ 13 (d := mkM 19 0 "Stretch" "__init__" "Stretch.__init__") rfl; exact ⟨_, _, fd, gS, He.mkr_ok (c.d.fact 50 rfl), F⟩
    f_Stretch___contains__ := by obtain ⟨fd, F⟩ := c.d.def_ 14 (d := mkM 19 1 "Stretch" "__contains__" "Stretch.__contains__") rfl; exact ⟨_, _, fd, gS, kS, He.meth_ok (c.d.fact 13 rfl), F⟩
    f_Stretch___eq__ := by obtain ⟨fd, F⟩ := c.d.def_ 15 (d := mkM 19 2 "Stretch" "__eq__" "Stretch.__eq__") rfl; exact ⟨_, _, fd, gS, kS, He.meth_ok (c.d.fact 14 rfl), F⟩
    f_stretch_of := by obtain ⟨fd, F⟩ := c.d.def_ 16 (d := mkD 22 "stretch_of") rfl; exact ⟨_, fd, He.glo_ok X G (c.d.fact 15 rfl), F⟩
    f_Stretch_within := by obtain ⟨fd, F⟩ := c.d.def_ 17 (d := mkM 19 3 "Stretch" "within" "Stretch.within") rfl; exact ⟨_, _, fd, gS, kS, He.meth_ok (c.d.fact 16 rfl), F⟩
    f_Stretch_hull := by obtain ⟨fd, F⟩ := c.d.def_ 18 (d := mkM 19 4 "Stretch" "hull" "Stretch.hull") rfl; exact ⟨_, _, fd, gS, kS, He.meth_ok (c.d.fact 17 rfl), F⟩
    f_Stretch_shared := by obtain ⟨fd, F⟩ := c.d.def_ 19 (d := mkM 19 5 "Stretch" "shared" "Stretch.shared") rfl; exact ⟨_, _, fd, gS, kS, He.meth_ok (c.d.fact 18 rfl), F⟩
    f__law_box := by obtain ⟨fd, F⟩ := c.d.def_ 20 (d := mkD 24 "_law_box") rfl; exact ⟨_, fd, He.glo_ok X G (c.d.fact 19 rfl), F⟩
    f__law_draw := by obtain ⟨fd, F⟩ := c.d.def_ 21 (d := mkD 25 "_law_draw") rfl; exact ⟨_, fd, He.glo_ok X G (c.d.fact 20 rfl), F⟩
    f__law_from := by obtain ⟨fd, F⟩ := c.d.def_ 22 (d := mkD 26 "_law_from") rfl; exact ⟨_, fd, He.glo_ok X G (c.d.fact 21 rfl), F⟩
    f__law_of := by obtain ⟨fd, F⟩ := c.d.def_ 23 (d := mkD 27 "_law_of") rfl; exact ⟨_, fd, He.glo_ok X G (c.d.fact 22 rfl), F⟩
    f__law_gcd := by obtain ⟨fd, F⟩ := c.d.def_ 24 (d := mkD 28 "_law_gcd") rfl; exact ⟨_, fd, He.glo_ok X G (c.d.fact 23 rfl), F⟩
    f__law_low := by obtain ⟨fd, F⟩ := c.d.def_ 25 (d := mkD 29 "_law_low") rfl; exact ⟨_, fd, He.glo_ok X G (c.d.fact 24 rfl), F⟩
    f__law_plus := by obtain ⟨fd, F⟩ := c.d.def_ 26 (d := mkD 30 "_law_plus") rfl; exact ⟨_, fd, He.glo_ok X G (c.d.fact 25 rfl), F⟩
    f__law_sign := by obtain ⟨fd, F⟩ := c.d.def_ 27 (d := mkD 31 "_law_sign") rfl; exact ⟨_, fd, He.glo_ok X G (c.d.fact 26 rfl), F⟩
    f__law_order := by obtain ⟨fd, F⟩ := c.d.def_ 28 (d := mkD 32 "_law_order") rfl; exact ⟨_, fd, He.glo_ok X G (c.d.fact 27 rfl), F⟩
    f__law_text := by obtain ⟨fd, F⟩ := c.d.def_ 29 (d := mkD 33 "_law_text") rfl; exact ⟨_, fd, He.glo_ok X G (c.d.fact 28 rfl), F⟩
    f__law_whole := by obtain ⟨fd, F⟩ := c.d.def_ 30 (d := mkD 34 "_law_whole") rfl; exact ⟨_, fd, He.glo_ok X G (c.d.fact 29 rfl), F⟩
    f__law_pair := by obtain ⟨fd, F⟩ := c.d.def_ 31 (d := mkD 35 "_law_pair") rfl; exact ⟨_, fd, He.glo_ok X G (c.d.fact 30 rfl), F⟩
    f__law_truth := by obtain ⟨fd, F⟩ := c.d.def_ 32 (d := mkD 36 "_law_truth") rfl; exact ⟨_, fd, He.glo_ok X G (c.d.fact 31 rfl), F⟩
    f__law_numbers := by obtain ⟨fd, F⟩ := c.d.def_ 33 (d := mkD 37 "_law_numbers") rfl; exact ⟨_, fd, He.glo_ok X G (c.d.fact 32 rfl), F⟩
    f__law_ends := by obtain ⟨fd, F⟩ := c.d.def_ 34 (d := mkD 38 "_law_ends") rfl; exact ⟨_, fd, He.glo_ok X G (c.d.fact 33 rfl), F⟩
    f__law_below := by obtain ⟨fd, F⟩ := c.d.def_ 35 (d := mkD 39 "_law_below") rfl; exact ⟨_, fd, He.glo_ok X G (c.d.fact 34 rfl), F⟩
    f__law_above := by obtain ⟨fd, F⟩ := c.d.def_ 36 (d := mkD 40 "_law_above") rfl; exact ⟨_, fd, He.glo_ok X G (c.d.fact 35 rfl), F⟩
    f__law_hull := by obtain ⟨fd, F⟩ := c.d.def_ 37 (d := mkD 41 "_law_hull") rfl; exact ⟨_, fd, He.glo_ok X G (c.d.fact 36 rfl), F⟩
    f__law_shared := by obtain ⟨fd, F⟩ := c.d.def_ 38 (d := mkD 42 "_law_shared") rfl; exact ⟨_, fd, He.glo_ok X G (c.d.fact 37 rfl), F⟩
    f__law_holds := by obtain ⟨fd, F⟩ := c.d.def_ 39 (d := mkD 43 "_law_holds") rfl; exact ⟨_, fd, He.glo_ok X G (c.d.fact 38 rfl), F⟩
    f__law_written := by obtain ⟨fd, F⟩ := c.d.def_ 40 (d := mkD 44 "_law_written") rfl; exact ⟨_, fd, He.glo_ok X G (c.d.fact 39 rfl), F⟩
    f__law_right := by obtain ⟨fd, F⟩ := c.d.def_ 41 (d := mkD 45 "_law_right") rfl; exact ⟨_, fd, He.glo_ok X G (c.d.fact 40 rfl), F⟩
    f__law_two_right := by obtain ⟨fd, F⟩ := c.d.def_ 42 (d := mkD 46 "_law_two_right") rfl; exact ⟨_, fd, He.glo_ok X G (c.d.fact 41 rfl), F⟩
    f__law_three_right := by obtain ⟨fd, F⟩ := c.d.def_ 43 (d := mkD 47 "_law_three_right") rfl; exact ⟨_, fd, He.glo_ok X G (c.d.fact 42 rfl), F⟩
    f__law_text_refused := by obtain ⟨fd, F⟩ := c.d.def_ 44 (d := mkD 48 "_law_text_refused") rfl; exact ⟨_, fd, He.glo_ok X G (c.d.fact 43 rfl), F⟩
    f__law_value_refused := by obtain ⟨fd, F⟩ := c.d.def_ 45 (d := mkD 49 "_law_value_refused") rfl; exact ⟨_, fd, He.glo_ok X G (c.d.fact 44 rfl), F⟩
  }
theorem law_facts {f : Addr} (X : K.In h) (G : h.Ns mainGlobals mg) (hmg : mg ("law" : Str) = some (.ref f)) (c : SaysX hxs hfa hfn K) :
    ∃ fd : FuncData, (∀ (s : Shared) (v : Value), BindsTo s fd ⟨[v], []⟩ [("script", v)]) ∧ ∀ base : Heap, K.In base → base.Ns mainGlobals mg → FnOk P w K mg base (L2N.CX P w) 9 f fd ["script"] (spLaw K m_law) := by
  obtain ⟨fd, F⟩ := c.d.def_ 46 (d := mkD 50 "law") rfl
  have e := hmg.symm.trans (He.glo_ok X G (c.d.fact 45 (f := .glo "law") rfl))
  cases e
  have b := FunD.bindsA (ps := ["script"]) F fun _ _ _ _ _ _ us hl => match us, hl with | [_], _ => rfl
  exact ⟨fd, fun s v => b s [v] rfl, fun base _ _ => ok_law (facts_ok (base := base) X G c) F⟩
end
end K06

open PySem PySem.W PySem.Calls PyProof.Rows
theorem PySem.Challenge.cw_stillabove_k06_stretches_as_sets_holds : PySem.Challenge.rw_stillabove_k06_stretches_as_sets.Holds := by
  w_on; o_law
  refine HandSHeadRun.head_imp (r := OpenLaw.row PySem.Challenge.rw_stillabove_k06_stretches_as_sets) (q := view (OpenLaw.row PySem.Challenge.rw_stillabove_k06_stretches_as_sets).prog [0, 50]) (H := K06.hhk) (ob := K06.hob) (M := 5500) (loose := K06.hloose) (d := HandSHeadRun.topDef (OpenLaw.row PySem.Challenge.rw_stillabove_k06_stretches_as_sets).prog 50) (kwd := []) K06.hob_eq
    K06.hrun (by kernel_rfl) (by kernel_rfl) (by kernel_rfl) (by rfl) (by first | assumption | decide +kernel) (by decide +kernel) ⟨rfl, rfl, rfl, rfl, rfl, by decide +kernel⟩ ?hw ?hc
  case hw => w_witness2
  case hc =>
    refine Att.attach_callB (l := PySem.Challenge.rw_stillabove_k06_stretches_as_sets) (n := 63) rfl (by kernel_rfl) fun w s₀ s₁ mg mb fa o pm cd doc a vs ns G Y ho hd hcd hmg0 hobj hints hlen hbits hg => ?_
    obtain ⟨K, KX, c⟩ := Y
    have hmg : mg ("law" : PySem.Str) = some (.ref fa) := by
      have e : (HandSHeadRun.topDef (OpenLaw.row PySem.Challenge.rw_stillabove_k06_stretches_as_sets).prog 50).name = ("law" : PySem.Str) := by kernel_rfl
      rw [← e]
      exact hmg0
    obtain ⟨fd, hb, hF⟩ := K06.law_facts (P := (PySem.Challenge.rw_stillabove_k06_stretches_as_sets).prog) (w := w) KX G.T.g hmg c
    exact L2.law_call KX G.T.g G.T.b G.T.builtins G.T.nolimit hg hobj hints (Nat.le_trans hlen (by decide)) (k := 9) ⟨rfl, by decide, by decide⟩ hF hb (fun H hO hS => ⟨a, ns, rfl, hS, hO, K06.law_ok ns hbits, fun _ => rfl⟩) fun H e s' cx => by
      obtain ⟨_, _, _, _, _, _, _, _, _, _, _, _, hE⟩ := cx
      exact hE.elim
end

